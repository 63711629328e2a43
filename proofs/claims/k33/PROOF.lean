import PyProof.Rows.All
import Wide.All
import OpenK.AllK
import Wide.FinOn
import KE.KStateDown
import PyProof.EqLayable
import HandS.Base
import HandS.Call
import HandS.List
import HandS.Dict
import HandS.Text
import HandS.Wide
import HandS.TupAny
import HandS.TupLe
import HandS.IsInst
import HandS.SortInts
import HandS.More
import HandS.Comp
import HandS.Ends
import HandS.Iter
import HandS.Exc
import KE.DatumOrd
import KE.KTupSum
import KE.KSortTupG
import HandS.Conv
import PyProof.TupleOfSeq
import PyProof.Rows.SortShellAny
import HandS.SetFor
import HandS.Strs
import HandS.Style
import HandS.Rev
import HandS.RevTup
import HandS.Zip
import HandS.Walk
import HandS.HeadWalk
import HandS.SetKeys
import PyProof.EnumMake
import PyProof.Draws
import KE.GoesMore
import HandS.ExcOwn
import HandS.HeadHook1
import HandS.TryOnly
import HandS.ExcIs
import HandS.FStr
import HandS.HeadEnd
import HandS.HeadHook2
import HandS.Defaults
import HandS.Words
import HandS.WordsExc
import HandS.Codes
import KE.KSortedM
import HandS.Head0
import HandS.Head1
import HandS.Head2
import PySem.Challenge.RW_shutways_k33_rings_told
set_option Elab.async false
set_option linter.all false
set_option maxRecDepth 100000
set_option maxHeartbeats 4000000
/-! SW, part A: pure data, a store of cells, the small language, what it computes (weakest preconditions). -/
namespace SW
open PySem

/-! ### data and store -/
inductive D where
  | non | bl (b : Bool) | int (i : Int) | str (s : Str) | tup (xs : List D) | ref (a : Addr) | rl (xs : List D)
  deriving Inhabited
abbrev Env := List (Option D)
inductive Cell where
  | lst (xs : List D)
  | dic (kvs : List (D × D))
  | ins (c : Nat) (fs : List (Nat × D))
  | fz (c : Cell)
abbrev Store := Addr → Option Cell
def Store.upd (S : Store) (a : Addr) (c : Cell) : Store := fun b => if b = a then some c else S b
def unfz : Cell → Cell
  | .fz c => c
  | c => c
def Store.rd (S : Store) (a : Addr) : Option Cell := (S a).map unfz
theorem Store.upd_same {S : Store} {a : Addr} {c : Cell} : S.upd a c a = some c := if_pos rfl
theorem Store.upd_ne {S : Store} {a b : Addr} {c : Cell} (h : b ≠ a) : S.upd a c b = S b := if_neg h
/-- a field is stored -/
def putN (f : Nat) (v : D) : List (Nat × D) → List (Nat × D)
  | [] => [(f, v)]
  | (g, u) :: r => if f = g then (g, v) :: r else (g, u) :: putN f v r

/-! equality of keys: ints, texts, tuples of these -/
mutual
def eqK : D → D → Bool
  | .int i, .int j => i == j
  | .str s, .str t => s == t
  | .tup xs, .tup ys => eqKs xs ys
  | _, _ => false
def eqKs : List D → List D → Bool
  | [], [] => true
  | x :: xs, y :: ys => eqK x y && eqKs xs ys
  | _, _ => false
end
def getK (k : D) : List (D × D) → Option D
  | [] => none
  | (q, v) :: r => if eqK q k = true then some v else getK k r
def hasK (k : D) (l : List (D × D)) : Bool := l.any fun q => eqK q.1 k
def repK (k v : D) (l : List (D × D)) : List (D × D) := l.map fun q => if eqK q.1 k = true then (q.1, v) else q
def putK (k v : D) (l : List (D × D)) : List (D × D) := if hasK k l = true then repK k v l else l ++ [(k, v)]
def mergeD (kvs more : List (D × D)) : List (D × D) := more.foldl (fun acc kv => putK kv.1 kv.2 acc) kvs
def delK (k : D) (l : List (D × D)) : List (D × D) := l.filter fun q => !eqK q.1 k
/-! data as the model's plain data, to a depth -/
mutual
def toPD : Nat → Store → D → Option PyData
  | 0, _, _ => none
  | _ + 1, _, .non => some .none
  | _ + 1, _, .bl b => some (.bool b)
  | _ + 1, _, .int i => some (.int i)
  | _ + 1, _, .str s => some (.str s)
  | n + 1, S, .tup xs => (toPDs n S xs).map .tuple
  | _ + 1, _, .rl _ => none
  | n + 1, S, .ref a => match S a with
    | some (.lst xs) => (toPDs n S xs).map .list
    | _ => none
def toPDs : Nat → Store → List D → Option (List PyData)
  | _, _, [] => some []
  | 0, _, _ :: _ => none
  | n + 1, S, x :: xs => match toPD n S x with
    | none => none
    | some p => match toPDs n S xs with
      | none => none
      | some ps => some (p :: ps)
end

/-! ### the language -/
inductive Bop where | add | sub | mul | fdiv | mod | pow
  deriving DecidableEq
inductive Cop where | eq | ne | lt | le | gt | ge | is | isnot | in_ | notin
  deriving DecidableEq
inductive Ty where | int | bool | str | list | tuple | dict | cls (c : Nat)
  deriving DecidableEq
inductive Blt where | len | int | max | min | list | tuple | sorted | str | abs | sum | all | any | bool | dict
  deriving DecidableEq
inductive Bmt where | append | pop | get | join | split | extend | clear | index | setdefault | insert | reverse | count | remove | startswith | items
  deriving DecidableEq
mutual
inductive Tg where | nm (i : Nat) | tup (ts : Tgs)
inductive Tgs where | nil | cons (t : Tg) (ts : Tgs)
end
mutual
inductive Ex where
  | var (i : Nat) | cst (d : D)
  | tup (es : Exs) | lst (es : Exs) | dic (ks vs : Exs)
  | bin (o : Bop) (a b : Ex) | neg (a : Ex) | no (a : Ex) | an (a b : Ex) | or (a b : Ex)
  | cmp (o : Cop) (a b : Ex) | chn (o o' : Cop) (a b c : Ex) | ife (t a b : Ex)
  | ix (a b : Ex) | slc (a : Ex) (lo hi : Ox) | slc3 (a : Ex) (lo hi st : Ox) | rvs (a : Ex) | sset (a : Ex) | lset (a : Ex) | fld (a : Ex) (f : Nat) | lrg (a b : Ex)
  | call (f : Nat) (es : Exs) | mk (c : Nat) (es : Exs) | meth (a : Ex) (m : Nat) (es : Exs)
  | blt (b : Blt) (es : Exs) | bmt (a : Ex) (m : Bmt) (es : Exs)
  | isi (a : Ex) (ts : List Ty)
  | comp (e : Ex) (tg : Tg) (it : Itx) (c : Ex) (own : List Nat) | compD (e : Ex) (tg : Tg) (items : Bool) (it c : Ex) (own : List Nat)
inductive Exs where | nil | cons (e : Ex) (es : Exs)
inductive Ox where | no | some (e : Ex)
inductive Itx where | seq (e : Ex) | rng1 (a : Ex) | rng2 (a b : Ex) | enu (e : Ex) | zip (a b : Ex) | rev (e : Ex)
end
/-! what an except suite may do: e is the exception -/
inductive Qx where | cst (d : D) | var (i : Nat) | isx (cs : List (Option Nat)) | an (a b : Qx) | or (a b : Qx) | no (a : Qx) | int (a : Qx) | bin (o : Bop) (a b : Qx)
inductive Qm where | asg (i : Nat) (e : Qx) | lst (i : Nat) (es : List Qx) | app (i : Nat) (e : Qx)
mutual
inductive Sm where
  | asg (t : Tg) (e : Ex) | asgL (ts : Tgs) (e : Ex) | asF (a : Ex) (f : Nat) (e : Ex) | asS (a i e : Ex)
  | aug (i : Nat) (o : Bop) (e : Ex) | auF (a : Ex) (f : Nat) (o : Bop) (e : Ex) | auS (a i : Ex) (o : Bop) (e : Ex)
  | ex (e : Ex) | ret (e : Ex) | retN | ite (t : Ex) (a b : Sms)
  | for_ (t : Tg) (it : Itx) (b : Sms) | forD (t : Tg) (items : Bool) (e : Ex) (b : Sms)
  | while_ (t : Ex) (b : Sms) | try_ (b : Sms) (c : Nat) (en : Option Nat) (q : List Qm) | pass | cont | brk | raise (c : Nat)
inductive Sms where | nil | cons (s : Sm) (ss : Sms)
end

/-! ### what operators do -/
abbrev PQ := D → Store → Prop
abbrev PX := Nat → Store → Prop
def wpBin : Bop → D → D → Store → PQ → Prop
  | .add, .int i, .int j, S, Q => Q (.int (i + j)) S
  | .add, .str s, .str t, S, Q => s.length + t.length ≤ sizeLine ∧ Q (.str (s ++ t)) S
  | .add, .tup xs, .tup ys, S, Q => xs.length + ys.length ≤ sizeLine ∧ Q (.tup (xs ++ ys)) S
  | .add, .ref a, .ref b, S, Q => ∃ xs ys, S a = some (.lst xs) ∧ S b = some (.lst ys) ∧ xs.length + ys.length ≤ sizeLine ∧
      ∀ p, S p = none → Q (.ref p) (S.upd p (.lst (xs ++ ys)))
  | .sub, .int i, .int j, S, Q => Q (.int (i - j)) S
  | .mul, .ref a, .int k, S, Q => ∃ xs, S a = some (.lst xs) ∧ -(2 ^ 63) ≤ k ∧ k < 2 ^ 63 ∧ xs.length * k.toNat ≤ sizeLine ∧
      ∀ p, S p = none → Q (.ref p) (S.upd p (.lst (List.replicate k.toNat xs).flatten))
  | .mul, .int i, .int j, S, Q => (L2.CMul i j ∨ L2.CMulW i j) ∧ Q (.int (i * j)) S
  | .fdiv, .int i, .int j, S, Q => (0 < j ∧ j < 1073741824) ∧ Q (.int (i / j)) S
  | .mod, .int i, .int j, S, Q => 0 < j ∧ Q (.int (i % j)) S
  | .pow, .int i, .int j, S, Q => L2.CPow i j ∧ Q (.int (i ^ j.toNat)) S
  | _, _, _, _, _ => False
/-- x op= y: ints and texts alone -/
def wpAug : Bop → D → D → (D → Prop) → Prop
  | .add, .int i, .int j, Q => Q (.int (i + j))
  | .sub, .int i, .int j, Q => Q (.int (i - j))
  | .add, .str s, .str t, Q => s.length + t.length ≤ sizeLine ∧ Q (.str (s ++ t))
  | _, _, _, _ => False
def isNon : D → Bool
  | .non => true
  | _ => false
def intsOf : List D → Option (List Int)
  | [] => some []
  | .int i :: r => (intsOf r).map (i :: ·)
  | _ :: _ => none
def strsOf : List D → Option (List Str)
  | [] => some []
  | .str s :: r => (strsOf r).map (s :: ·)
  | _ :: _ => none
def blsOf : List D → Option (List Bool)
  | [] => some []
  | .bl s :: r => (blsOf r).map (s :: ·)
  | _ :: _ => none
def tupsOf : List D → Option (List (List Int))
  | [] => some []
  | .tup xs :: r => match intsOf xs, tupsOf r with
    | some n, some m => some (n :: m)
    | _, _ => none
  | _ :: _ => none
/-- a key of a plain dict -/
def isKey : D → Bool
  | .int _ => true
  | .str _ => true
  | _ => false
def pairsOf : List D → Option (List (D × D))
  | [] => some []
  | [_] => none
  | k :: v :: r => if isKey k = true then (pairsOf r).map ((k, v) :: ·) else none
def flatD : D → Bool
  | .non => true
  | .bl _ => true
  | .int _ => true
  | .str _ => true
  | _ => false
def eqF : D → D → Bool
  | .non, .non => true
  | .bl a, .bl b => a == b
  | .bl a, .int j => (if a then 1 else 0) == j
  | .int i, .bl b => i == (if b then 1 else 0)
  | .int i, .int j => i == j
  | .str s, .str t => s == t
  | _, _ => false
def inF (x : D) (xs : List D) : Bool := xs.any fun y => eqF y x
def wpIn (x y : D) (S : Store) (Q : Bool → Prop) : Prop := match y with
  | .tup ys => flatD x = true ∧ (∀ z ∈ ys, flatD z = true) ∧ Q (inF x ys)
  | .ref a => (∃ ys, S a = some (.lst ys) ∧ flatD x = true ∧ (∀ z ∈ ys, flatD z = true) ∧ Q (inF x ys)) ∨
      (∃ kvs, S.rd a = some (.dic kvs) ∧ isKey x = true ∧ Q (getK x kvs).isSome)
  | .str t => match x with
    | .str s => Q (!(Builtin.Str.occurrences t s 0 t.length 1).isEmpty)
    | _ => False
  | _ => False
def wpEq : D → D → Store → (Bool → Prop) → Prop
  | .str s, .str t, _, Q => Q (decide (s = t))
  | x, y, S, Q => ∃ n p q, toPD n S x = some p ∧ toPD n S y = some q ∧ SeqAt.shaped p = true ∧ SeqAt.shaped q = true ∧ Q (PyData.eqv p q)
def wpLt (x y : D) (Q : Bool → Prop) : Prop := match x, y with
  | .int i, .int j => Q (decide (i < j))
  | .tup xs, .tup ys => ∃ ns ms, intsOf xs = some ns ∧ intsOf ys = some ms ∧ Q (HT.lexLt ns ms)
  | _, _ => False
def wpCop : Cop → D → D → Store → (Bool → Prop) → Prop
  | .eq, x, y, S, Q => wpEq x y S Q
  | .ne, x, y, S, Q => wpEq x y S fun b => Q (!b)
  | .lt, x, y, _, Q => wpLt x y Q
  | .gt, x, y, _, Q => wpLt y x Q
  | .le, .int i, .int j, _, Q => Q (decide (i ≤ j))
  | .ge, .int i, .int j, _, Q => Q (decide (j ≤ i))
  | .is, x, .non, _, Q => Q (isNon x)
  | .is, .bl a, .bl b, _, Q => Q (decide (a = b))
  | .isnot, x, .non, _, Q => Q (!isNon x)
  | .isnot, .bl a, .bl b, _, Q => Q (!decide (a = b))
  | .in_, x, y, S, Q => wpIn x y S Q
  | .notin, x, y, S, Q => wpIn x y S fun b => Q (!b)
  | _, _, _, _, _ => False
def cutL {α : Type} (xs : List α) (lo hi : Option Int) : List α := (xs.drop (HT.sIx xs.length 0 lo)).take (HT.sIx xs.length xs.length hi - HT.sIx xs.length 0 lo)
def wpIx (x y : D) (S : Store) (Q : D → Prop) : Prop := match x with
  | .tup xs => ∃ i d, y = .int i ∧ L2.atI xs i = some d ∧ Q d
  | .rl xs => ∃ i d, y = .int i ∧ L2.atI xs i = some d ∧ Q d
  | .str s => ∃ i c, y = .int i ∧ s.length ≤ sizeLine ∧ L2.atI s.cps.toList i = some c ∧ Q (.str ⟨#[c]⟩)
  | .ref a => (∃ xs i d, S a = some (.lst xs) ∧ y = .int i ∧ L2.atI xs i = some d ∧ Q d) ∨
      (∃ kvs d, S.rd a = some (.dic kvs) ∧ isKey y = true ∧ getK y kvs = some d ∧ Q d)
  | _ => False
def wpSl (x : D) (lo hi : Option Int) (S : Store) (Q : PQ) : Prop := match x with
  | .tup xs => Q (.tup (cutL xs lo hi)) S
  | .str s => s.length ≤ sizeLine ∧ Q (.str (L2.cutS s lo hi)) S
  | .ref a => ∃ xs, S a = some (.lst xs) ∧ ∀ p, S p = none → Q (.ref p) (S.upd p (.lst (cutL xs lo hi)))
  | .rl xs => ∀ p, S p = none → Q (.ref p) (S.upd p (.lst (cutL xs lo hi)))
  | _ => False
inductive Kd where | non | bl | int | str | tup | lst | dic
  deriving DecidableEq
def kdOf (S : Store) : D → Option Kd
  | .non => some .non
  | .bl _ => some .bl
  | .int _ => some .int
  | .str _ => some .str
  | .tup _ => some .tup
  | .rl _ => some .lst
  | .ref a => match S.rd a with
    | some (.lst _) => some .lst
    | some (.dic _) => some .dic
    | _ => none
def kdTy : Kd → Ty → Option Bool
  | _, .cls _ => none
  | .int, .int => some true
  | .bl, .int => some true
  | .bl, .bool => some true
  | .str, .str => some true
  | .tup, .tuple => some true
  | .lst, .list => some true
  | .dic, .dict => some true
  | _, _ => some false
def isTys (k : Kd) : List Ty → Option Bool
  | [] => some false
  | t :: ts => match kdTy k t, isTys k ts with
    | some b, some c => some (b || c)
    | _, _ => none
def seqOf (S : Store) : D → Option (List D)
  | .tup xs => some xs
  | .rl xs => some xs
  | .ref a => match S a with
    | some (.lst xs) => some xs
    | _ => none
  | _ => none
/-- the items of a list -/
def seqRef (S : Store) : D → Option (List D)
  | .rl xs => some xs
  | .ref a => match S a with
    | some (.lst xs) => some xs
    | _ => none
  | _ => none
def kvsOf : List D → Option (List (D × D))
  | [] => some []
  | .tup [k, v] :: r => if isKey k = true then (kvsOf r).map ((k, v) :: ·) else none
  | _ => none
def wpBlt : Blt → List D → Store → PQ → Prop
  | .len, [x], S, Q => match x with
    | .str s => s.length ≤ sizeLine ∧ Q (.int s.length) S
    | .ref a => (∃ xs, S a = some (.lst xs) ∧ Q (.int xs.length) S) ∨ (∃ kvs, S.rd a = some (.dic kvs) ∧ Q (.int kvs.length) S)
    | x => (∃ xs, seqOf S x = some xs ∧ Q (.int xs.length) S)
  | .int, [x], S, Q => match x with
    | .int i => Q (.int i) S
    | .bl b => Q (.int (if b then 1 else 0)) S
    | .str s => ∃ n, intText? s = some n ∧ s.length ≤ 640 ∧ Q (.int n) S
    | _ => False
  | .max, [.int i, .int j], S, Q => Q (.int (if j > i then j else i)) S
  | .min, [.int i, .int j], S, Q => Q (.int (if j < i then j else i)) S
  | .min, [.tup xs, .tup ys], S, Q => ∃ ns ms, intsOf xs = some ns ∧ intsOf ys = some ms ∧ Q (.tup (if HT.lexLt ms ns = true then ys else xs)) S
  | .max, [x], S, Q => ∃ xs ns, seqOf S x = some xs ∧ intsOf xs = some ns ∧ 0 < ns.length ∧ ∀ m, m ∈ ns → (∀ y, y ∈ ns → y ≤ m) → Q (.int m) S
  | .min, [.ref a], S, Q => (∃ xs ns, S a = some (.lst xs) ∧ intsOf xs = some ns ∧ 0 < ns.length ∧ ∀ m, m ∈ ns → (∀ y, y ∈ ns → m ≤ y) → Q (.int m) S) ∨
      (∃ xs ts, S a = some (.lst xs) ∧ tupsOf xs = some ts ∧ 0 < ts.length ∧ ∀ m, m ∈ ts → (∀ y, y ∈ ts → HT.lexLt y m = false) → Q (.tup (m.map .int)) S) ∨
      (∃ kvs ks, S.rd a = some (.dic kvs) ∧ intsOf (kvs.map (·.1)) = some ks ∧ 0 < ks.length ∧ ∀ m, m ∈ ks → (∀ y, y ∈ ks → m ≤ y) → Q (.int m) S)
  | .min, [x], S, Q => ∃ xs ns, seqOf S x = some xs ∧ intsOf xs = some ns ∧ 0 < ns.length ∧ ∀ m, m ∈ ns → (∀ y, y ∈ ns → m ≤ y) → Q (.int m) S
  | .abs, [.int i], S, Q => Q (.int (if i < 0 then -i else i)) S
  | .str, [.int i], S, Q => i.natAbs.log2 < 1920 ∧ Q (.str (toString i : String)) S
  | .list, [.ref a], S, Q => (∃ xs, S a = some (.lst xs) ∧ ∀ p, S p = none → Q (.ref p) (S.upd p (.lst xs))) ∨ (∃ kvs, S a = some (.dic kvs) ∧ ∀ p, S p = none → Q (.ref p) (S.upd p (.lst (kvs.map (·.1)))))
  | .list, [x], S, Q => ∃ xs, seqOf S x = some xs ∧ ∀ p, S p = none → Q (.ref p) (S.upd p (.lst xs))
  | .tuple, [x], S, Q => ∃ xs, seqOf S x = some xs ∧ Q (.tup xs) S
  | .sorted, [.ref a], S, Q => (∃ xs ns, S a = some (.lst xs) ∧ intsOf xs = some ns ∧ ∀ (ns' : List Int) p, ns'.Perm ns → ns'.Pairwise (· ≤ ·) → S p = none → Q (.ref p) (S.upd p (.lst (ns'.map .int)))) ∨
      (∃ kvs ks, S.rd a = some (.dic kvs) ∧ intsOf (kvs.map (·.1)) = some ks ∧ ks.length < 64 ∧ ∀ (ns' : List Int) p, ns'.Perm ks → ns'.Pairwise (· ≤ ·) → S p = none → Q (.ref p) (S.upd p (.lst (ns'.map .int)))) ∨
      (∃ xs ts, S a = some (.lst xs) ∧ tupsOf xs = some ts ∧ (∀ t ∈ ts, t ≠ []) ∧ ∀ (ts' : List (List Int)) p, ts'.Perm ts → ts'.Pairwise (fun x y => HT.lexLt y x = false) → S p = none → Q (.ref p) (S.upd p (.lst (ts'.map fun t => .tup (t.map .int)))))
  | .sorted, [.tup xs], S, Q => ∃ ss, strsOf xs = some ss ∧ ss.length < 64 ∧ ∀ (ss' : List Str) p, ss'.Perm ss → PyProof.Rows.sortedS ss' = true → S p = none → Q (.ref p) (S.upd p (.lst (ss'.map .str)))
  | .dict, [.ref a], S, Q => ∃ xs kvs, S a = some (.lst xs) ∧ kvsOf xs = some kvs ∧ ∀ p, S p = none → Q (.ref p) (S.upd p (.dic (mergeD [] kvs)))
  | .sum, [x], S, Q => ∃ xs ns, seqOf S x = some xs ∧ intsOf xs = some ns ∧ Q (.int ns.sum) S
  | .all, [.ref a], S, Q => ∃ xs bs, S a = some (.lst xs) ∧ blsOf xs = some bs ∧ Q (.bl (bs.all id)) S
  | .any, [.ref a], S, Q => ∃ xs bs, S a = some (.lst xs) ∧ blsOf xs = some bs ∧ Q (.bl (bs.any id)) S
  | _, _, _, _ => False
/-- the kind of a thing one of whose methods is called -/
def kdM (S : Store) : D → Option Kd
  | .str _ => some .str
  | .ref a => match S a with
    | some (.lst _) => some .lst
    | some (.dic _) => some .dic
    | _ => none
  | _ => none
def bmtId : Kd → Bmt → Option String
  | .lst, .append => some "list.append"
  | .lst, .extend => some "list.extend"
  | .lst, .clear => some "list.clear"
  | .lst, .pop => some "list.pop"
  | .lst, .remove => some "list.remove"
  | .lst, .index => some "list.index"
  | .lst, .insert => some "list.insert"
  | .lst, .reverse => some "list.reverse"
  | .lst, .count => some "list.count"
  | .str, .startswith => some "str.startswith"
  | .dic, .setdefault => some "dict.setdefault"
  | .str, .join => some "str.join"
  | .str, .split => some "str.split"
  | .dic, .get => some "dict.get"
  | .dic, .pop => some "dict.pop"
  | _, _ => none
def wpBmt (k : Kd) (m : Bmt) (x : D) (ds : List D) (S : Store) (Q : PQ) : Prop := match k, m, x, ds with
  | .lst, .append, .ref a, [d] => ∃ xs, S a = some (.lst xs) ∧ xs.length < sizeLine ∧ Q .non (S.upd a (.lst (xs ++ [d])))
  | .lst, .extend, .ref a, [.ref b] => ∃ xs ys, S a = some (.lst xs) ∧ S b = some (.lst ys) ∧ xs.length + ys.length ≤ sizeLine ∧ Q .non (S.upd a (.lst (xs ++ ys)))
  | .lst, .clear, .ref a, [] => ∃ xs, S a = some (.lst xs) ∧ Q .non (S.upd a (.lst []))
  | .lst, .pop, .ref a, [] => ∃ xs d, S a = some (.lst xs) ∧ xs[xs.length - 1]? = some d ∧ Q d (S.upd a (.lst xs.dropLast))
  | .lst, .pop, .ref a, [.int i] => ∃ xs k d, S a = some (.lst xs) ∧ -(2 ^ 63) ≤ i ∧ i < 2 ^ 63 ∧ seqIndex? i xs.length = some k ∧ xs[k]? = some d ∧ Q d (S.upd a (.lst (xs.eraseIdx k)))
  | .lst, .remove, .ref a, [.int i] => ∃ xs ns j, S a = some (.lst xs) ∧ intsOf xs = some ns ∧ ns[j]? = some i ∧ (∀ m : Nat, m < j → ns[m]? ≠ some i) ∧ Q .non (S.upd a (.lst ((ns.eraseIdx j).map .int)))
  | .str, .join, .str s, [x] => ∃ xs ys, seqOf S x = some xs ∧ strsOf xs = some ys ∧ (ys.map (·.length)).sum + ys.length * s.length ≤ 16777216 ∧ Q (.str (Txt.join s ys)) S
  | .str, .split, .str s, [.str t] => (t.length == 0) = false ∧ s.length + 2 ≤ sizeLine ∧ ∀ p, S p = none → Q (.ref p) (S.upd p (.lst ((Txt.split s t).map .str)))
  | .dic, .get, .ref a, [k] => ∃ kvs, S a = some (.dic kvs) ∧ isKey k = true ∧ Q ((getK k kvs).getD .non) S
  | .dic, .get, .ref a, [k, d] => ∃ kvs, S a = some (.dic kvs) ∧ isKey k = true ∧ Q ((getK k kvs).getD d) S
  | .dic, .pop, .ref a, [k] => ∃ kvs d, S a = some (.dic kvs) ∧ isKey k = true ∧ getK k kvs = some d ∧ Q d (S.upd a (.dic (delK k kvs)))
  | .lst, .index, .ref a, [.int i] => ∃ xs ns j, S a = some (.lst xs) ∧ intsOf xs = some ns ∧ ns[j]? = some i ∧ (∀ m : Nat, m < j → ns[m]? ≠ some i) ∧ Q (.int (j : Nat)) S
  | .lst, .insert, .ref a, [.int i, d] => ∃ xs, S a = some (.lst xs) ∧ xs.length < sizeLine ∧ 0 ≤ i ∧ i < 2 ^ 63 ∧ Q .non (S.upd a (.lst (xs.take i.toNat ++ [d] ++ xs.drop i.toNat)))
  | .lst, .reverse, .ref a, [] => ∃ xs, S a = some (.lst xs) ∧ Q .non (S.upd a (.lst xs.reverse))
  | .lst, .count, .ref a, [.int i] => ∃ xs ns, S a = some (.lst xs) ∧ intsOf xs = some ns ∧ Q (.int (ns.count i : Nat)) S
  | .str, .startswith, .str s, [.str t] => Q (.bl (Txt.startswith s t)) S
  | .dic, .setdefault, .ref a, [k, d] => ∃ kvs, S a = some (.dic kvs) ∧ isKey k = true ∧ kvs.length < sizeLine ∧ (∀ d', getK k kvs = some d' → Q d' S) ∧ (getK k kvs = none → Q d (S.upd a (.dic (putK k d kvs))))
  | _, _, _, _ => False

/-- a question that is asked as a whole -/
inductive Gate : Prop where
  | mk (n : Nat) (h : n = 5)
structure Hold (p : Prop) : Prop where
  gate : Gate
  out : p
theorem hold {p : Prop} (h : p) : Hold p := ⟨.mk 5 rfl, h⟩
/-! ### expressions -/
abbrev Rec := Nat → List D → Store → PQ → PX → Prop
/-- the program's tables: which function a method of a class is; how many parameters; the class's maker -/
structure Prg where
  meth : Nat → Nat → Option Nat
  init : Nat → Option Nat
  sub : Nat → Nat → Option Bool
  isx : Nat → Option Nat → Option Bool
def noX : PX := fun _ _ => False
mutual
def asgT : Tg → D → Env → Option Env
  | .nm i, d, env => some (env.set i (some d))
  | .tup ts, d, env => match d with
    | .tup ds => asgTs ts ds env
    | _ => none
def asgTs : Tgs → List D → Env → Option Env
  | .nil, ds, env => match ds with
    | [] => some env
    | _ :: _ => none
  | .cons t ts, ds, env => match ds with
    | [] => none
    | d :: ds => match asgT t d env with
      | none => none
      | some env' => asgTs ts ds env'
end
def wipeE (env : Env) : List Nat → Env
  | [] => env
  | v :: vs => (wipeE env vs).set v none
def itemsD (items : Bool) (kvs : List (D × D)) : List D := if items then kvs.map fun q => .tup [q.1, q.2] else kvs.map (·.1)
/-- the turns of a comprehension: the new list at p -/
def compLoop (guard : Store → Prop) (G : D → Option Env) (C : Env → Store → PQ → Prop) (V : Env → Store → PQ → Prop) (p : Addr) (Q : Store → Prop) : List D → Store → Prop
  | [], S => guard S ∧ Q S
  | d :: ds, S => guard S ∧ ∃ env, G d = some env ∧ C env S fun b S3 => ∃ c, b = .bl c ∧
      if c = true then V env S3 fun y S4 => ∃ acc, S4 p = some (.lst acc) ∧ acc.length < sizeLine ∧ compLoop guard G C V p Q ds (S4.upd p (.lst (acc ++ [y])))
      else compLoop guard G C V p Q ds S3
def rngL (lo hi : Int) : List D := (List.range (hi - lo).toNat).map fun (k : Nat) => .int (lo + (k : Int))
def enuL (xs : List D) : List D := (List.range xs.length).zipWith (fun (k : Nat) x => .tup [.int (k : Int), x]) xs
def zipL (xs ys : List D) : List D := List.zipWith (fun x y => .tup [x, y]) xs ys
def wpZip (x y : D) (S : Store) (K : List D → (Store → Prop) → Prop) : Prop :=
  (∃ xs ys, x = .tup xs ∧ y = .tup ys ∧ K (zipL xs ys) fun _ => True) ∨
  (∃ a b xs ys, x = .ref a ∧ y = .ref b ∧ S a = some (.lst xs) ∧ S b = some (.lst ys) ∧ K (zipL xs ys) fun S' => S' a = some (.lst xs) ∧ S' b = some (.lst ys))
def small (i : Int) : Prop := -(2 ^ 62) ≤ i ∧ i < 2 ^ 62
/-- the items of a thing that is walked, and what has to stay so at each turn -/
def wpSeq (x : D) (S : Store) (K : List D → (Store → Prop) → Prop) : Prop := match x with
  | .tup xs => K xs fun _ => True
  | .rl xs => K xs fun _ => True
  | .ref a => ∃ xs, S a = some (.lst xs) ∧ K xs fun S' => S' a = some (.lst xs)
  | .str s => K (s.cps.toList.map fun c => .str ⟨#[c]⟩) fun _ => True
  | _ => False
/-- xs[lo:hi:st] -/
def stpL {α : Type} (lo hi st : Option Int) (xs : List α) : List α := (sliceRange (sliceBounds lo hi st xs.length).1 (sliceBounds lo hi st xs.length).2.1 (sliceBounds lo hi st xs.length).2.2).filterMap fun k => xs[k]?
/-- len(set(a list of ints)) -/
def wpLset (x : D) (S : Store) (Q : PQ) : Prop := ∃ a xs ns, x = .ref a ∧ S a = some (.lst xs) ∧ intsOf xs = some ns ∧ ns.length < 1000 ∧ Q (.int ((ns.foldl PyProof.Rows.step_dedup []).length : Nat)) S
/-- sorted(set(a list of ints)) -/
def wpSset (x : D) (S : Store) (Q : PQ) : Prop := ∃ a xs ns, x = .ref a ∧ S a = some (.lst xs) ∧ intsOf xs = some ns ∧ ns.length < 64 ∧
  ∀ (ms : List Int) p, ms.Pairwise (· < ·) → (∀ k, k ∈ ms ↔ k ∈ ns) → S p = none → Q (.ref p) (S.upd p (.lst (ms.map .int)))
section
variable (P : Prg) (R RM : Rec)
mutual
def wpE : Ex → Env → Store → PQ → PX → Prop
  | .var i, env, S, Q, _ => ∃ d, env[i]? = some (some d) ∧ Q d S
  | .cst d, _, S, Q, _ => Q d S
  | .tup es, env, S, Q, E => wpEs es env S (fun ds S1 => ds.length ≤ sizeLine ∧ Q (.tup ds) S1) E
  | .lst es, env, S, Q, E => wpEs es env S (fun ds S1 => ds.length ≤ sizeLine ∧ ∀ p, S1 p = none → Q (.ref p) (S1.upd p (.lst ds))) E
  | .dic ks _, env, S, Q, E => ∀ p, S p = none → match ks with
    | .nil => Q (.ref p) (S.upd p (.dic []))
    | .cons _ _ => wpEs ks env (S.upd p (.dic [])) (fun ds S2 => S2 p = some (.dic []) ∧ ∃ kvs, pairsOf ds = some kvs ∧ kvs.length ≤ 15 ∧ Q (.ref p) (S2.upd p (.dic (mergeD [] kvs)))) E
  | .lrg a b, env, S, Q, E => wpE a env S (fun x S1 => wpE b env S1 (fun y S2 => ∃ i j, x = .int i ∧ y = .int j ∧ small i ∧ small j ∧ (j - i).toNat ≤ 16777216 ∧ ∀ p, S2 p = none → Q (.ref p) (S2.upd p (.lst (rngL i j)))) E) E
  | .bin o a b, env, S, Q, E => wpE a env S (fun x S1 => wpE b env S1 (fun y S2 => wpBin o x y S2 Q) E) E
  | .neg a, env, S, Q, E => wpE a env S (fun x S1 => ∃ i, x = .int i ∧ Q (.int (-i)) S1) E
  | .no a, env, S, Q, E => wpE a env S (fun x S1 => ∃ c, x = .bl c ∧ Q (.bl (!c)) S1) E
  | .an a b, env, S, Q, E => wpE a env S (fun x S1 => ∃ c, x = .bl c ∧ if c = true then wpE b env S1 Q E else Q (.bl false) S1) E
  | .or a b, env, S, Q, E => wpE a env S (fun x S1 => ∃ c, x = .bl c ∧ if c = true then Q (.bl true) S1 else wpE b env S1 Q E) E
  | .cmp o a b, env, S, Q, E => wpE a env S (fun x S1 => wpE b env S1 (fun y S2 => wpCop o x y S2 fun c => Q (.bl c) S2) E) E
  | .chn o o' a b c, env, S, Q, E => wpE a env S (fun x S1 => wpE b env S1 (fun y S2 => wpCop o x y S2 fun k => ∃ c', D.bl k = .bl c' ∧ if c' = true then
      wpE c env S2 (fun z S3 => wpCop o' y z S3 fun k' => Q (.bl k') S3) E else Q (.bl false) S2) E) E
  | .ife t a b, env, S, Q, E => wpE t env S (fun x S1 => ∃ c, x = .bl c ∧ if c = true then wpE a env S1 Q E else wpE b env S1 Q E) E
  | .ix a b, env, S, Q, E => wpE a env S (fun x S1 => wpE b env S1 (fun y S2 => wpIx x y S2 fun d => Q d S2) E) E
  | .slc a lo hi, env, S, Q, E => wpE a env S (fun x S1 => wpO lo env S1 (fun l S2 => wpO hi env S2 (fun h S3 => wpSl x l h S3 Q) E) E) E
  | .sset a, env, S, Q, E => wpE a env S (fun x S1 => wpSset x S1 Q) E
  | .lset a, env, S, Q, E => wpE a env S (fun x S1 => wpLset x S1 Q) E
  | .slc3 a lo hi st, env, S, Q, E => wpE a env S (fun x S1 => wpO lo env S1 (fun l S2 => wpO hi env S2 (fun h S3 => wpO st env S3 (fun t S4 => ∃ xs, seqRef S4 x = some xs ∧ t ≠ some 0 ∧ ∀ p, S4 p = none → Q (.ref p) (S4.upd p (.lst (stpL l h t xs)))) E) E) E) E
  | .rvs a, env, S, Q, E => wpE a env S (fun x S1 => ∃ xs, seqRef S1 x = some xs ∧ ∀ p, S1 p = none → Q (.ref p) (S1.upd p (.lst xs.reverse))) E
  | .fld a f, env, S, Q, E => wpE a env S (fun x S1 => ∃ p c fs d, x = .ref p ∧ S1 p = some (.ins c fs) ∧ fs.lookup f = some d ∧ Q d S1) E
  | .call f es, env, S, Q, E => wpEs es env S (fun ds S1 => R f ds S1 Q E) E
  | .mk c es, env, S, Q, E => wpEs es env S (fun ds S1 => ∃ f, P.init c = some f ∧ ∀ p, S1 p = none →
      RM f (.ref p :: ds) (S1.upd p (.ins c [])) (fun v S2 => v = .non ∧ Q (.ref p) S2) E) E
  | .meth a m es, env, S, Q, E => wpE a env S (fun x S1 => ∃ p c fs f, x = .ref p ∧ S1 p = some (.ins c fs) ∧ P.meth c m = some f ∧
      wpEs es env S1 (fun ds S2 => R f (.ref p :: ds) S2 Q E) E) E
  | .blt b es, env, S, Q, E => wpEs es env S (fun ds S1 => wpBlt b ds S1 Q) E
  | .bmt a m es, env, S, Q, E => wpE a env S (fun x S1 => ∃ k, kdM S1 x = some k ∧ (bmtId k m).isSome = true ∧ wpEs es env S1 (fun ds S2 => wpBmt k m x ds S2 Q) E) E
  | .isi a ts, env, S, Q, E => wpE a env S (fun x S1 => ∃ k b, kdOf S1 x = some k ∧ isTys k ts = some b ∧ Q (.bl b) S1) E
  | .comp e tg it c own, env, S, Q, E => wpI it env S (fun items guard S1 => ∀ p, S1 p = none →
      Hold (compLoop guard (fun d => asgT tg d (wipeE env own)) (fun env S Q => wpE c env S Q noX) (fun env S Q => wpE e env S Q noX) p (Q (.ref p)) items (S1.upd p (.lst [])))) E
  | .compD e tg items it c own, env, S, Q, E => ∃ a kvs, S a = some (.dic kvs) ∧ wpE it env (S.upd a (.fz (.dic kvs))) (fun x S1 => x = .ref a ∧ ∀ p, S1 p = none →
      Hold (compLoop (fun S' => S' a = some (.fz (.dic kvs))) (fun d => asgT tg d (wipeE env own)) (fun env S Q => wpE c env S Q noX) (fun env S Q => wpE e env S Q noX) p (fun S' => Q (.ref p) (S'.upd a (.dic kvs))) (itemsD items kvs) (S1.upd p (.lst [])))) noX
def wpEs : Exs → Env → Store → (List D → Store → Prop) → PX → Prop
  | .nil, _, S, Q, _ => Q [] S
  | .cons e es, env, S, Q, E => wpE e env S (fun d S1 => wpEs es env S1 (fun ds S2 => Q (d :: ds) S2) E) E
def wpO : Ox → Env → Store → (Option Int → Store → Prop) → PX → Prop
  | .no, _, S, Q, _ => Q none S
  | .some e, env, S, Q, E => wpE e env S (fun d S1 => ∃ i, d = .int i ∧ Q (some i) S1) E
def wpI : Itx → Env → Store → (List D → (Store → Prop) → Store → Prop) → PX → Prop
  | .seq e, env, S, K, E => wpE e env S (fun x S1 => wpSeq x S1 fun xs g => K xs g S1) E
  | .rng1 a, env, S, K, E => wpE a env S (fun x S1 => ∃ j, x = .int j ∧ small j ∧ K (rngL 0 j) (fun _ => True) S1) E
  | .rng2 a b, env, S, K, E => wpE a env S (fun x S1 => wpE b env S1 (fun y S2 => ∃ i j, x = .int i ∧ y = .int j ∧ small i ∧ small j ∧ K (rngL i j) (fun _ => True) S2) E) E
  | .enu e, env, S, K, E => wpE e env S (fun x S1 => (∃ xs, (x = .tup xs ∨ x = .rl xs) ∧ K (enuL xs) (fun _ => True) S1) ∨
      (∃ a xs, x = .ref a ∧ S1 a = some (.lst xs) ∧ K (enuL xs) (fun S' => S' a = some (.lst xs)) S1)) E
  | .zip a b, env, S, K, E => wpE a env S (fun x S1 => wpE b env S1 (fun y S2 => wpZip x y S2 fun xs g => K xs g S2) E) E
  | .rev _, _, _, _, _ => False
end

/-! ### statements -/
structure Kt where
  nx : Env → Store → Prop
  rt : D → Store → Prop
  bk : Env → Store → Prop
  ct : Env → Store → Prop
  ex : Env → PX
def forLoop (guard : Store → Prop) (G : D → Env → Option Env) (B : Env → Store → Kt → Prop) (K : Kt) : List D → Env → Store → Prop
  | [], env, S => guard S ∧ K.nx env S
  | d :: ds, env, S => guard S ∧ ∃ env2, G d env = some env2 ∧ B env2 S { K with nx := forLoop guard G B K ds, ct := forLoop guard G B K ds, bk := K.nx }
def whileN (T : Env → Store → PQ → Prop) (B : Env → Store → Kt → Prop) (K : Kt) : Nat → Env → Store → Prop
  | 0, _, _ => False
  | n + 1, env, S => T env S fun b S1 => ∃ c, b = .bl c ∧ if c = true then B env S1 { K with nx := whileN T B K n, ct := whileN T B K n, bk := K.nx } else K.nx env S1
def unlock (a : Addr) (c : Cell) (S : Store) : Store := S.upd a c
/-! except suites -/
def anyI (P : Prg) (c' : Nat) : List (Option Nat) → Option Bool
  | [] => some false
  | c :: cs => match P.isx c' c with
    | some true => some true
    | some false => anyI P c' cs
    | none => none
def wpBinI : Bop → D → D → (D → Prop) → Prop
  | .add, .int i, .int j, Q => Q (.int (i + j))
  | .sub, .int i, .int j, Q => Q (.int (i - j))
  | .mul, .int i, .int j, Q => L2.CMul i j ∧ Q (.int (i * j))
  | _, _, _, _ => False
def wpQx (P : Prg) (c' : Nat) : Qx → Env → (D → Prop) → Prop
  | .cst d, _, Q => Q d
  | .var i, env, Q => ∃ d, env[i]? = some (some d) ∧ Q d
  | .isx cs, _, Q => ∃ b, anyI P c' cs = some b ∧ Q (.bl b)
  | .an a b, env, Q => wpQx P c' a env fun x => ∃ c, x = .bl c ∧ if c = true then wpQx P c' b env Q else Q (.bl false)
  | .or a b, env, Q => wpQx P c' a env fun x => ∃ c, x = .bl c ∧ if c = true then Q (.bl true) else wpQx P c' b env Q
  | .no a, env, Q => wpQx P c' a env fun x => ∃ c, x = .bl c ∧ Q (.bl (!c))
  | .int a, env, Q => wpQx P c' a env fun x => ∃ c, x = .bl c ∧ Q (.int (if c = true then 1 else 0))
  | .bin o a b, env, Q => wpQx P c' a env fun x => wpQx P c' b env fun y => wpBinI o x y Q
def wpQxs (P : Prg) (c' : Nat) : List Qx → Env → (List D → Prop) → Prop
  | [], _, Q => Q []
  | e :: es, env, Q => wpQx P c' e env fun d => wpQxs P c' es env fun ds => Q (d :: ds)
def wpQm (P : Prg) (c' : Nat) : Qm → Env → Store → (Env → Store → Prop) → Prop
  | .asg i e, env, S, K => wpQx P c' e env fun d => K (env.set i (some d)) S
  | .lst i es, env, S, K => wpQxs P c' es env fun ds => ds.length ≤ sizeLine ∧ ∀ p, S p = none → K (env.set i (some (.ref p))) (S.upd p (.lst ds))
  | .app i e, env, S, K => ∃ p, env[i]? = some (some (.ref p)) ∧ ∃ xs0, S p = some (.lst xs0) ∧ wpQx P c' e env fun d => ∃ xs, S p = some (.lst xs) ∧ xs.length < sizeLine ∧ K env (S.upd p (.lst (xs ++ [d])))
def wpQ (P : Prg) (c' : Nat) : List Qm → Env → Store → (Env → Store → Prop) → Prop
  | [], env, S, K => K env S
  | m :: ms, env, S, K => wpQm P c' m env S fun env' S' => wpQ P c' ms env' S' K
/-- x[y], where x[y] is stored behind -/
def wpGx (x y : D) (S : Store) (Q : D → Prop) : Prop := (∃ p xs i d, x = .ref p ∧ S p = some (.lst xs) ∧ y = .int i ∧ L2.atI xs i = some d ∧ Q d) ∨ (∃ p kvs d, x = .ref p ∧ S p = some (.dic kvs) ∧ isKey y = true ∧ getK y kvs = some d ∧ Q d)
theorem wpGx_mono {x y : D} {S : Store} {Q Q' : D → Prop} (h : ∀ d, Q d → Q' d) : wpGx x y S Q → wpGx x y S Q'
  | .inl ⟨p, xs, i, d, a, b, c, e, f⟩ => .inl ⟨p, xs, i, d, a, b, c, e, h d f⟩
  | .inr ⟨p, xs, d, a, b, c, e, f⟩ => .inr ⟨p, xs, d, a, b, c, e, h d f⟩
def setO (env : Env) (en : Option Nat) (x : Option D) : Env := match en with
  | none => env
  | some i => env.set i x
mutual
def wpS : Sm → Env → Store → Kt → Prop
  | .asg t e, env, S, K => wpE P R RM e env S (fun d S1 => ∃ env2, asgT t d env = some env2 ∧ K.nx env2 S1) (K.ex env)
  | .asgL ts e, env, S, K => wpE P R RM e env S (fun d S1 => ∃ env2, (asgT (.tup ts) d env = some env2 ∨ ∃ a xs, d = .ref a ∧ S1 a = some (.lst xs) ∧ asgTs ts xs env = some env2) ∧ K.nx env2 S1) (K.ex env)
  | .asF a f e, env, S, K => wpE P R RM e env S (fun d S1 => wpE P R RM a env S1 (fun x S2 => ∃ p c fs, x = .ref p ∧ S2 p = some (.ins c fs) ∧ fs.length < 1000 ∧
      K.nx env (S2.upd p (.ins c (putN f d fs)))) (K.ex env)) (K.ex env)
  | .asS a i e, env, S, K => wpE P R RM e env S (fun d S1 => wpE P R RM a env S1 (fun x S2 => wpE P R RM i env S2 (fun y S3 => 
      (∃ p xs k j, x = .ref p ∧ S3 p = some (.lst xs) ∧ y = .int k ∧ L2.ixN xs.length k = some j ∧ K.nx env (S3.upd p (.lst (xs.set j d)))) ∨
      (∃ p kvs, x = .ref p ∧ S3 p = some (.dic kvs) ∧ isKey y = true ∧ kvs.length < sizeLine ∧ K.nx env (S3.upd p (.dic (putK y d kvs))))) (K.ex env)) (K.ex env)) (K.ex env)
  | .aug i o e, env, S, K => ∃ x, env[i]? = some (some x) ∧ wpE P R RM e env S (fun y S1 => wpAug o x y fun z => K.nx (env.set i (some z)) S1) (K.ex env)
  | .auF a f o e, env, S, K => wpE P R RM a env S (fun x S1 => ∃ p c fs v, x = .ref p ∧ S1 p = some (.ins c fs) ∧ fs.lookup f = some v ∧
      wpE P R RM e env S1 (fun y S2 => wpAug o v y fun z => ∃ fs', S2 p = some (.ins c fs') ∧ fs'.length < 1000 ∧ K.nx env (S2.upd p (.ins c (putN f z fs')))) (K.ex env)) (K.ex env)
  | .auS a i o e, env, S, K => wpE P R RM a env S (fun x S1 => wpE P R RM i env S1 (fun y S2 => wpGx x y S2 fun v => wpE P R RM e env S2 (fun w S3 => wpAug o v w fun z =>
      (∃ p xs k j, x = .ref p ∧ S3 p = some (.lst xs) ∧ y = .int k ∧ L2.ixN xs.length k = some j ∧ K.nx env (S3.upd p (.lst (xs.set j z)))) ∨
      (∃ p kvs, x = .ref p ∧ S3 p = some (.dic kvs) ∧ isKey y = true ∧ kvs.length < sizeLine ∧ K.nx env (S3.upd p (.dic (putK y z kvs))))) (K.ex env)) (K.ex env)) (K.ex env)
  | .ex e, env, S, K => wpE P R RM e env S (fun _ S1 => K.nx env S1) (K.ex env)
  | .ret e, env, S, K => wpE P R RM e env S K.rt (K.ex env)
  | .retN, _, S, K => K.rt .non S
  | .ite t a b, env, S, K => wpE P R RM t env S (fun x S1 => ∃ c, x = .bl c ∧ if c = true then wpSs a env S1 K else wpSs b env S1 K) (K.ex env)
  | .for_ t it b, env, S, K => wpI P R RM it env S (fun items guard S1 => Hold (forLoop guard (asgT t) (wpSs b) K items env S1)) (K.ex env)
  | .forD t items e b, env, S, K => ∃ a kvs, S a = some (.dic kvs) ∧ wpE P R RM e env (S.upd a (.fz (.dic kvs))) (fun x S1 => x = .ref a ∧
      Hold (forLoop (fun S' => S' a = some (.fz (.dic kvs))) (asgT t) (wpSs b)
        { nx := fun env' S' => S' a = some (.fz (.dic kvs)) ∧ K.nx env' (S'.upd a (.dic kvs)), rt := fun d S' => S' a = some (.fz (.dic kvs)) ∧ K.rt d (S'.upd a (.dic kvs)), bk := fun _ _ => False, ct := fun _ _ => False, ex := fun _ => noX }
        (itemsD items kvs) env S1)) noX
  | .while_ t b, env, S, K => Hold (∃ n, whileN (fun env S Q => wpE P R RM t env S Q (K.ex env)) (wpSs b) K n env S)
  | .try_ b c en q, env, S, K => wpSs b env S { K with ex := fun env' c' S' => ∃ b, P.sub c' c = some b ∧ if b = true then (∀ a, wpQ P c' q (setO env' en (some (.ref a))) S' fun e2 S2 => K.nx (setO e2 en none) S2) else K.ex env' c' S' }
  | .pass, env, S, K => K.nx env S
  | .cont, env, S, K => K.ct env S
  | .brk, env, S, K => K.bk env S
  | .raise c, env, S, K => K.ex env c S
def wpSs : Sms → Env → Store → Kt → Prop
  | .nil, env, S, K => K.nx env S
  | .cons s ss, env, S, K => wpS s env S { K with nx := fun env' S' => wpSs ss env' S' K }
end
end
end SW
/-! SW, part B: monotone. -/
namespace SW
open PySem
theorem wpBin_mono {o : Bop} {x y : D} {S : Store} {Q Q' : PQ} (hq : ∀ d S, Q d S → Q' d S) (h : wpBin o x y S Q) : wpBin o x y S Q' := by
  unfold wpBin at h ⊢
  split at h
  case h_4 => obtain ⟨xs, ys, h1, h2, h3, h4⟩ := h; exact ⟨xs, ys, h1, h2, h3, fun p hp => hq _ _ (h4 p hp)⟩
  case h_6 => obtain ⟨xs, h1, h2, h3, h4, h5⟩ := h; exact ⟨xs, h1, h2, h3, h4, fun p hp => hq _ _ (h5 p hp)⟩
  all_goals first | exact h | exact hq _ _ h | exact ⟨h.1, hq _ _ h.2⟩
theorem wpAug_mono {o : Bop} {x y : D} {Q Q' : D → Prop} (hq : ∀ d, Q d → Q' d) (h : wpAug o x y Q) : wpAug o x y Q' := by
  unfold wpAug at h ⊢
  split at h
  · exact hq _ h
  · exact hq _ h
  · exact ⟨h.1, hq _ h.2⟩
  · exact h
theorem wpIn_mono {x y : D} {S : Store} {Q Q' : Bool → Prop} (hq : ∀ b, Q b → Q' b) (h : wpIn x y S Q) : wpIn x y S Q' := by
  unfold wpIn at h ⊢
  split at h
  · exact ⟨h.1, h.2.1, hq _ h.2.2⟩
  · rcases h with ⟨ys, a, b, c, d⟩ | ⟨kvs, a, b, c⟩
    · exact .inl ⟨ys, a, b, c, hq _ d⟩
    · exact .inr ⟨kvs, a, b, hq _ c⟩
  · split at h
    · exact hq _ h
    · exact h
  · exact h
theorem wpEq_mono {x y : D} {S : Store} {Q Q' : Bool → Prop} (hq : ∀ b, Q b → Q' b) (h : wpEq x y S Q) : wpEq x y S Q' := by
  unfold wpEq at h ⊢
  split at h
  · exact hq _ h
  · obtain ⟨n, p, q, a, b, c, d, e⟩ := h
    exact ⟨n, p, q, a, b, c, d, hq _ e⟩
theorem wpLt_mono {x y : D} {Q Q' : Bool → Prop} (hq : ∀ b, Q b → Q' b) (h : wpLt x y Q) : wpLt x y Q' := by
  unfold wpLt at h ⊢
  split at h
  · exact hq _ h
  · obtain ⟨n, m, a, b, c⟩ := h
    exact ⟨n, m, a, b, hq _ c⟩
  · exact h
theorem wpCop_mono {o : Cop} {x y : D} {S : Store} {Q Q' : Bool → Prop} (hq : ∀ b, Q b → Q' b) (h : wpCop o x y S Q) : wpCop o x y S Q' := by
  unfold wpCop at h ⊢
  split at h
  · exact wpEq_mono hq h
  · exact wpEq_mono (fun b => hq (!b)) h
  · exact wpLt_mono hq h
  · exact wpLt_mono hq h
  · exact hq _ h
  · exact hq _ h
  · exact hq _ h
  · exact hq _ h
  · exact hq _ h
  · exact hq _ h
  · exact wpIn_mono hq h
  · exact wpIn_mono (fun b => hq (!b)) h
  · exact h
theorem wpIx_mono {x y : D} {S : Store} {Q Q' : D → Prop} (hq : ∀ b, Q b → Q' b) (h : wpIx x y S Q) : wpIx x y S Q' := by
  unfold wpIx at h ⊢
  split at h
  · obtain ⟨i, d, a, b, c⟩ := h; exact ⟨i, d, a, b, hq _ c⟩
  · obtain ⟨i, d, a, b, c⟩ := h; exact ⟨i, d, a, b, hq _ c⟩
  · obtain ⟨i, d, a, b, c, e⟩ := h; exact ⟨i, d, a, b, c, hq _ e⟩
  · rcases h with ⟨xs, i, d, a, b, c, e⟩ | ⟨xs, d, a, b, c, e⟩
    · exact .inl ⟨xs, i, d, a, b, c, hq _ e⟩
    · exact .inr ⟨xs, d, a, b, c, hq _ e⟩
  · exact h
theorem wpSl_mono {x : D} {l u : Option Int} {S : Store} {Q Q' : PQ} (hq : ∀ d S, Q d S → Q' d S) (h : wpSl x l u S Q) : wpSl x l u S Q' := by
  unfold wpSl at h ⊢
  split at h
  · exact hq _ _ h
  · exact ⟨h.1, hq _ _ h.2⟩
  · obtain ⟨xs, a, b⟩ := h; exact ⟨xs, a, fun p hp => hq _ _ (b p hp)⟩
  · exact fun p hp => hq _ _ (h p hp)
  · exact h
theorem wpBlt_mono {b : Blt} {ds : List D} {S : Store} {Q Q' : PQ} (hq : ∀ d S, Q d S → Q' d S) (h : wpBlt b ds S Q) : wpBlt b ds S Q' := by
  unfold wpBlt at h ⊢
  split at h
  · split at h
    · exact ⟨h.1, hq _ _ h.2⟩
    · rcases h with ⟨xs, a, b⟩ | ⟨xs, a, b⟩
      · exact .inl ⟨xs, a, hq _ _ b⟩
      · exact .inr ⟨xs, a, hq _ _ b⟩
    · obtain ⟨xs, a, b⟩ := h; exact ⟨xs, a, hq _ _ b⟩
  · split at h
    · exact hq _ _ h
    · exact hq _ _ h
    · obtain ⟨n, a, b, c⟩ := h; exact ⟨n, a, b, hq _ _ c⟩
    · exact h
  · exact hq _ _ h
  · exact hq _ _ h
  · obtain ⟨ns, ms, a, b, c⟩ := h; exact ⟨ns, ms, a, b, hq _ _ c⟩
  · obtain ⟨xs, ns, a, b, c, d⟩ := h; exact ⟨xs, ns, a, b, c, fun m h1 h2 => hq _ _ (d m h1 h2)⟩
  · rcases h with ⟨xs, ns, a, b, c, d⟩ | ⟨xs, ns, a, b, c, d⟩ | ⟨xs, ns, a, b, c, d⟩
    · exact .inl ⟨xs, ns, a, b, c, fun m h1 h2 => hq _ _ (d m h1 h2)⟩
    · exact .inr (.inl ⟨xs, ns, a, b, c, fun m h1 h2 => hq _ _ (d m h1 h2)⟩)
    · exact .inr (.inr ⟨xs, ns, a, b, c, fun m h1 h2 => hq _ _ (d m h1 h2)⟩)
  · obtain ⟨xs, ns, a, b, c, d⟩ := h; exact ⟨xs, ns, a, b, c, fun m h1 h2 => hq _ _ (d m h1 h2)⟩
  · exact hq _ _ h
  · exact ⟨h.1, hq _ _ h.2⟩
  · rcases h with ⟨xs, a, b⟩ | ⟨xs, a, b⟩
    · exact .inl ⟨xs, a, fun p hp => hq _ _ (b p hp)⟩
    · exact .inr ⟨xs, a, fun p hp => hq _ _ (b p hp)⟩
  · obtain ⟨xs, a, b⟩ := h; exact ⟨xs, a, fun p hp => hq _ _ (b p hp)⟩
  · obtain ⟨xs, a, b⟩ := h; exact ⟨xs, a, hq _ _ b⟩
  · rcases h with ⟨xs, ns, a, b, c⟩ | ⟨xs, ns, a, b, l, c⟩ | ⟨xs, ns, a, b, l, c⟩
    · exact .inl ⟨xs, ns, a, b, fun ns' p h1 h2 h3 => hq _ _ (c ns' p h1 h2 h3)⟩
    · exact .inr (.inl ⟨xs, ns, a, b, l, fun ns' p h1 h2 h3 => hq _ _ (c ns' p h1 h2 h3)⟩)
    · exact .inr (.inr ⟨xs, ns, a, b, l, fun ns' p h1 h2 h3 => hq _ _ (c ns' p h1 h2 h3)⟩)
  · obtain ⟨ss, a, b, c⟩ := h; exact ⟨ss, a, b, fun ss' p h1 h2 h3 => hq _ _ (c ss' p h1 h2 h3)⟩
  · obtain ⟨xs, kvs, a, b, c⟩ := h; exact ⟨xs, kvs, a, b, fun p hp => hq _ _ (c p hp)⟩
  · obtain ⟨xs, ns, a, b, c⟩ := h; exact ⟨xs, ns, a, b, hq _ _ c⟩
  · obtain ⟨xs, ns, a, b, c⟩ := h; exact ⟨xs, ns, a, b, hq _ _ c⟩
  · obtain ⟨xs, ns, a, b, c⟩ := h; exact ⟨xs, ns, a, b, hq _ _ c⟩
  · exact h
theorem wpBmt_mono {k : Kd} {m : Bmt} {x : D} {ds : List D} {S : Store} {Q Q' : PQ} (hq : ∀ d S, Q d S → Q' d S) (h : wpBmt k m x ds S Q) : wpBmt k m x ds S Q' := by
  unfold wpBmt at h ⊢
  split at h
  · obtain ⟨xs, a, b, c⟩ := h; exact ⟨xs, a, b, hq _ _ c⟩
  · obtain ⟨xs, ys, a, b, c, d⟩ := h; exact ⟨xs, ys, a, b, c, hq _ _ d⟩
  · obtain ⟨xs, a, c⟩ := h; exact ⟨xs, a, hq _ _ c⟩
  · obtain ⟨xs, d, a, b, c⟩ := h; exact ⟨xs, d, a, b, hq _ _ c⟩
  · obtain ⟨xs, k, d, a, b, c, e, f, g⟩ := h; exact ⟨xs, k, d, a, b, c, e, f, hq _ _ g⟩
  · obtain ⟨xs, ns, j, a, b, c, e, f⟩ := h; exact ⟨xs, ns, j, a, b, c, e, hq _ _ f⟩
  · obtain ⟨xs, ys, a, b, c, d⟩ := h; exact ⟨xs, ys, a, b, c, hq _ _ d⟩
  · exact ⟨h.1, h.2.1, fun p hp => hq _ _ (h.2.2 p hp)⟩
  · obtain ⟨xs, a, b, c⟩ := h; exact ⟨xs, a, b, hq _ _ c⟩
  · obtain ⟨xs, a, b, c⟩ := h; exact ⟨xs, a, b, hq _ _ c⟩
  · obtain ⟨xs, d, a, b, c, e⟩ := h; exact ⟨xs, d, a, b, c, hq _ _ e⟩
  · obtain ⟨xs, ns, j, a, b, c, e, f⟩ := h; exact ⟨xs, ns, j, a, b, c, e, hq _ _ f⟩
  · obtain ⟨xs, a, b, c, e, f⟩ := h; exact ⟨xs, a, b, c, e, hq _ _ f⟩
  · obtain ⟨xs, a, c⟩ := h; exact ⟨xs, a, hq _ _ c⟩
  · obtain ⟨xs, ns, a, b, c⟩ := h; exact ⟨xs, ns, a, b, hq _ _ c⟩
  · exact hq _ _ h
  · obtain ⟨xs, a, b, l, c, e⟩ := h; exact ⟨xs, a, b, l, fun d' h1 => hq _ _ (c d' h1), fun h1 => hq _ _ (e h1)⟩
  · exact h
theorem wpSeq_mono {x : D} {S : Store} {K K' : List D → (Store → Prop) → Prop} (hk : ∀ xs g, K xs g → K' xs g) (h : wpSeq x S K) : wpSeq x S K' := by
  unfold wpSeq at h ⊢
  split at h
  · exact hk _ _ h
  · exact hk _ _ h
  · obtain ⟨xs, a, b⟩ := h; exact ⟨xs, a, hk _ _ b⟩
  · exact hk _ _ h
  · exact h
def MonoR (R : Rec) : Prop := ∀ f ds S Q Q' E E', (∀ d S, Q d S → Q' d S) → (∀ c S, E c S → E' c S) → R f ds S Q E → R f ds S Q' E'
theorem compLoop_mono {guard : Store → Prop} {G : D → Option Env} {C V : Env → Store → PQ → Prop} {p : Addr} {Q Q' : Store → Prop} (hq : ∀ S, Q S → Q' S)
    (hC : ∀ env S Q Q', (∀ d S, Q d S → Q' d S) → C env S Q → C env S Q') (hV : ∀ env S Q Q', (∀ d S, Q d S → Q' d S) → V env S Q → V env S Q') :
    ∀ items S, compLoop guard G C V p Q items S → compLoop guard G C V p Q' items S
  | [], S, h => ⟨h.1, hq _ h.2⟩
  | d :: ds, S, ⟨g, env, e, h⟩ => by
    refine ⟨g, env, e, hC _ _ _ _ (fun b S3 h3 => ?_) h⟩
    obtain ⟨c, e1, h3⟩ := h3
    refine ⟨c, e1, ?_⟩
    cases c with
    | true =>
      rw [if_pos rfl] at h3 ⊢
      refine hV _ _ _ _ (fun y S4 h4 => ?_) h3
      obtain ⟨acc, a, b, c⟩ := h4
      exact ⟨acc, a, b, compLoop_mono hq hC hV ds _ c⟩
    | false =>
      rw [if_neg Bool.false_ne_true] at h3 ⊢
      exact compLoop_mono hq hC hV ds _ h3
section
variable {P : Prg} {R RM : Rec} (mR : MonoR R) (mM : MonoR RM)
include mR mM
mutual
theorem wpE_mono : ∀ (e : Ex) {env : Env} {S : Store} {Q Q' : PQ} {E E' : PX}, (∀ d S, Q d S → Q' d S) → (∀ c S, E c S → E' c S) → wpE P R RM e env S Q E → wpE P R RM e env S Q' E'
  | .var i, _, _, _, _, _, _, hq, hE, h => by
    obtain ⟨d, a, b⟩ := h
    exact ⟨d, a, hq _ _ b⟩
  | .cst d, _, _, _, _, _, _, hq, hE, h => hq _ _ h
  | .tup es, _, _, _, _, _, _, hq, hE, h => wpEs_mono es (fun ds S1 h1 => ⟨h1.1, hq _ _ h1.2⟩) hE h
  | .lst es, _, _, _, _, _, _, hq, hE, h => wpEs_mono es (fun ds S1 h1 => ⟨h1.1, fun p hp => hq _ _ (h1.2 p hp)⟩) hE h
  | .dic ks _, _, _, _, _, _, _, hq, hE, h => fun p hp => by
      have h := h p hp
      cases ks with
      | nil => exact hq _ _ h
      | cons e es => exact wpEs_mono (.cons e es) (fun ds S2 ⟨h1, kvs, h2, h3, h4⟩ => ⟨h1, kvs, h2, h3, hq _ _ h4⟩) hE h
  | .lrg a b, _, _, _, _, _, _, hq, hE, h => wpE_mono a (fun x S1 h1 => wpE_mono b (fun y S2 ⟨i, j, a, b, c, d, e, f⟩ => ⟨i, j, a, b, c, d, e, fun p hp => hq _ _ (f p hp)⟩) hE h1) hE h
  | .bin o a b, _, _, _, _, _, _, hq, hE, h => wpE_mono a (fun x S1 h1 => wpE_mono b (fun y S2 h2 => wpBin_mono hq h2) hE h1) hE h
  | .neg a, _, _, _, _, _, _, hq, hE, h => wpE_mono a (fun x S1 ⟨i, a, b⟩ => ⟨i, a, hq _ _ b⟩) hE h
  | .no a, _, _, _, _, _, _, hq, hE, h => wpE_mono a (fun x S1 ⟨i, a, b⟩ => ⟨i, a, hq _ _ b⟩) hE h
  | .an a b, _, _, _, _, _, _, hq, hE, h => wpE_mono a (fun x S1 ⟨c, e, h1⟩ => ⟨c, e, by
      cases c with
      | true => exact wpE_mono b hq hE h1
      | false => exact hq _ _ h1⟩) hE h
  | .or a b, _, _, _, _, _, _, hq, hE, h => wpE_mono a (fun x S1 ⟨c, e, h1⟩ => ⟨c, e, by
      cases c with
      | true => exact hq _ _ h1
      | false => exact wpE_mono b hq hE h1⟩) hE h
  | .cmp o a b, _, _, _, _, _, _, hq, hE, h => wpE_mono a (fun x S1 h1 => wpE_mono b (fun y S2 h2 => wpCop_mono (fun c h3 => hq _ _ h3) h2) hE h1) hE h
  | .chn o o' a b c, _, _, _, _, _, _, hq, hE, h => wpE_mono a (fun x S1 h1 => wpE_mono b (fun y S2 h2 => wpCop_mono (fun k ⟨k', ek, h3⟩ => ⟨k', ek, by
      cases k' with
      | true => exact wpE_mono c (fun z S3 h4 => wpCop_mono (fun k' h5 => hq _ _ h5) h4) hE h3
      | false => exact hq _ _ h3⟩) h2) hE h1) hE h
  | .ife t a b, _, _, _, _, _, _, hq, hE, h => wpE_mono t (fun x S1 ⟨c, e, h1⟩ => ⟨c, e, by
      cases c with
      | true => exact wpE_mono a hq hE h1
      | false => exact wpE_mono b hq hE h1⟩) hE h
  | .ix a b, _, _, _, _, _, _, hq, hE, h => wpE_mono a (fun x S1 h1 => wpE_mono b (fun y S2 h2 => wpIx_mono (fun d h3 => hq _ _ h3) h2) hE h1) hE h
  | .slc a lo hi, _, _, _, _, _, _, hq, hE, h => wpE_mono a (fun x S1 h1 => wpO_mono lo (fun l S2 h2 => wpO_mono hi (fun u S3 h3 => wpSl_mono hq h3) hE h2) hE h1) hE h
  | .sset a, _, _, _, _, _, _, hq, hE, h => wpE_mono a (fun x S1 ⟨p, xs, ns, h1, h2, h3, h4, h5⟩ => ⟨p, xs, ns, h1, h2, h3, h4, fun ms p s m hp => hq _ _ (h5 ms p s m hp)⟩) hE h
  | .lset a, _, _, _, _, _, _, hq, hE, h => wpE_mono a (fun x S1 ⟨p, xs, ns, h1, h2, h3, h4, h5⟩ => ⟨p, xs, ns, h1, h2, h3, h4, hq _ _ h5⟩) hE h
  | .slc3 a lo hi st, _, _, _, _, _, _, hq, hE, h => wpE_mono a (fun x S1 h1 => wpO_mono lo (fun l S2 h2 => wpO_mono hi (fun u S3 h3 => wpO_mono st (fun t S4 ⟨xs, h4, h5, h6⟩ => ⟨xs, h4, h5, fun p hp => hq _ _ (h6 p hp)⟩) hE h3) hE h2) hE h1) hE h
  | .rvs a, _, _, _, _, _, _, hq, hE, h => wpE_mono a (fun x S1 ⟨xs, h1, h2⟩ => ⟨xs, h1, fun p hp => hq _ _ (h2 p hp)⟩) hE h
  | .fld a f, _, _, _, _, _, _, hq, hE, h => wpE_mono a (fun x S1 ⟨p, c, fs, d, h1, h2, h3, h4⟩ => ⟨p, c, fs, d, h1, h2, h3, hq _ _ h4⟩) hE h
  | .call f es, _, _, _, _, _, _, hq, hE, h => wpEs_mono es (fun ds S1 h1 => mR _ _ _ _ _ _ _ hq hE h1) hE h
  | .mk c es, _, _, _, _, _, _, hq, hE, h => wpEs_mono es (fun ds S1 ⟨f, a, h1⟩ => ⟨f, a, fun p hp => mM _ _ _ _ _ _ _ (fun v S2 h2 => ⟨h2.1, hq _ _ h2.2⟩) hE (h1 p hp)⟩) hE h
  | .meth a m es, _, _, _, _, _, _, hq, hE, h => wpE_mono a (fun x S1 ⟨p, c, fs, f, h1, h2, h3, h4⟩ => ⟨p, c, fs, f, h1, h2, h3, wpEs_mono es (fun ds S2 h5 => mR _ _ _ _ _ _ _ hq hE h5) hE h4⟩) hE h
  | .blt b es, _, _, _, _, _, _, hq, hE, h => wpEs_mono es (fun ds S1 h1 => wpBlt_mono hq h1) hE h
  | .bmt a m es, _, _, _, _, _, _, hq, hE, h => wpE_mono a (fun x S1 ⟨k, e, z, h1⟩ => ⟨k, e, z, wpEs_mono es (fun ds S2 h2 => wpBmt_mono hq h2) hE h1⟩) hE h
  | .isi a ts, _, _, _, _, _, _, hq, hE, h => wpE_mono a (fun x S1 ⟨k, b, h0, h1, h2⟩ => ⟨k, b, h0, h1, hq _ _ h2⟩) hE h
  | .comp e tg it c own, _, _, _, _, _, _, hq, hE, h => wpI_mono it (fun items guard S1 h1 p hp => by
      refine hold (compLoop_mono ?_ ?_ ?_ _ _ (h1 p hp).out)
      · exact fun S => hq _ S
      · exact fun env S Q Q' hq' h' => wpE_mono c hq' (fun _ _ z => z) h'
      · exact fun env S Q Q' hq' h' => wpE_mono e hq' (fun _ _ z => z) h') hE h
  | .compD e tg items it c own, _, _, _, _, _, _, hq, hE, ⟨a, kvs, h0, h⟩ => ⟨a, kvs, h0, wpE_mono it (fun x S1 ⟨e1, h1⟩ => ⟨e1, fun p hp => by
      refine hold (compLoop_mono ?_ ?_ ?_ _ _ (h1 p hp).out)
      · exact fun S => hq _ _
      · exact fun env S Q Q' hq' h' => wpE_mono c hq' (fun _ _ z => z) h'
      · exact fun env S Q Q' hq' h' => wpE_mono e hq' (fun _ _ z => z) h'⟩) (fun _ _ z => z) h⟩
theorem wpEs_mono : ∀ (es : Exs) {env : Env} {S : Store} {Q Q' : List D → Store → Prop} {E E' : PX}, (∀ d S, Q d S → Q' d S) → (∀ c S, E c S → E' c S) → wpEs P R RM es env S Q E → wpEs P R RM es env S Q' E'
  | .nil, _, _, _, _, _, _, hq, hE, h => hq _ _ h
  | .cons e es, _, _, _, _, _, _, hq, hE, h => wpE_mono e (fun d S1 h1 => wpEs_mono es (fun ds S2 h2 => hq _ _ h2) hE h1) hE h
theorem wpO_mono : ∀ (o : Ox) {env : Env} {S : Store} {Q Q' : Option Int → Store → Prop} {E E' : PX}, (∀ d S, Q d S → Q' d S) → (∀ c S, E c S → E' c S) → wpO P R RM o env S Q E → wpO P R RM o env S Q' E'
  | .no, _, _, _, _, _, _, hq, hE, h => hq _ _ h
  | .some e, _, _, _, _, _, _, hq, hE, h => wpE_mono e (fun d S1 ⟨i, a, b⟩ => ⟨i, a, hq _ _ b⟩) hE h
theorem wpI_mono : ∀ (o : Itx) {env : Env} {S : Store} {Q Q' : List D → (Store → Prop) → Store → Prop} {E E' : PX}, (∀ d g S, Q d g S → Q' d g S) → (∀ c S, E c S → E' c S) → wpI P R RM o env S Q E → wpI P R RM o env S Q' E'
  | .seq e, _, _, _, _, _, _, hq, hE, h => wpE_mono e (fun x S1 h1 => wpSeq_mono (fun xs g h2 => hq _ _ _ h2) h1) hE h
  | .rng1 a, _, _, _, _, _, _, hq, hE, h => wpE_mono a (fun x S1 ⟨j, a, b, c⟩ => ⟨j, a, b, hq _ _ _ c⟩) hE h
  | .rng2 a b, _, _, _, _, _, _, hq, hE, h => wpE_mono a (fun x S1 h1 => wpE_mono b (fun y S2 ⟨i, j, a, b, c, d, e⟩ => ⟨i, j, a, b, c, d, hq _ _ _ e⟩) hE h1) hE h
  | .enu e, _, _, _, _, _, _, hq, hE, h => wpE_mono e (fun x S1 h1 => by
      rcases h1 with ⟨j, a, b⟩ | ⟨i, j, a, b, d⟩
      · exact .inl ⟨j, a, hq _ _ _ b⟩
      · exact .inr ⟨i, j, a, b, hq _ _ _ d⟩) hE h
  | .zip a b, _, _, _, _, _, _, hq, hE, h => wpE_mono a (fun x S1 h1 => wpE_mono b (fun y S2 h2 => by
      rcases h2 with ⟨xs, ys, e1, e2, z⟩ | ⟨p, q, xs, ys, e1, e2, e3, e4, z⟩
      · exact .inl ⟨xs, ys, e1, e2, hq _ _ _ z⟩
      · exact .inr ⟨p, q, xs, ys, e1, e2, e3, e4, hq _ _ _ z⟩) hE h1) hE h
  | .rev _, _, _, _, _, _, _, hq, hE, h => h
end
end
structure Kt.le (K K' : Kt) : Prop where
  nx : ∀ env S, K.nx env S → K'.nx env S
  rt : ∀ d S, K.rt d S → K'.rt d S
  bk : ∀ env S, K.bk env S → K'.bk env S
  ct : ∀ env S, K.ct env S → K'.ct env S
  ex : ∀ env c S, K.ex env c S → K'.ex env c S
theorem forLoop_mono {guard : Store → Prop} {G : D → Env → Option Env} {B : Env → Store → Kt → Prop} {K K' : Kt} (hk : Kt.le K K')
    (hB : ∀ env S K K', Kt.le K K' → B env S K → B env S K') : ∀ items env S, forLoop guard G B K items env S → forLoop guard G B K' items env S
  | [], env, S, h => ⟨h.1, hk.nx _ _ h.2⟩
  | d :: ds, env, S, ⟨g, env2, e, h⟩ => ⟨g, env2, e, by
      refine hB _ _ _ _ ?_ h
      exact ⟨fun e s h => forLoop_mono hk hB ds e s h, hk.rt, hk.nx, fun e s h => forLoop_mono hk hB ds e s h, hk.ex⟩⟩
theorem whileN_mono {T : Env → Store → PQ → Prop} {T' : Env → Store → PQ → Prop} {B : Env → Store → Kt → Prop} {K K' : Kt} (hk : Kt.le K K') (hT : ∀ env S Q Q', (∀ d S, Q d S → Q' d S) → T env S Q → T' env S Q')
    (hB : ∀ env S K K', Kt.le K K' → B env S K → B env S K') : ∀ n env S, whileN T B K n env S → whileN T' B K' n env S
  | 0, env, S, h => h
  | n + 1, env, S, h => hT _ _ _ _ (fun b S1 ⟨c, e, h1⟩ => ⟨c, e, by
      cases c with
      | true =>
        rw [if_pos rfl] at h1 ⊢
        refine hB _ _ _ _ ?_ h1
        exact ⟨fun e s h => whileN_mono hk hT hB n e s h, hk.rt, hk.nx, fun e s h => whileN_mono hk hT hB n e s h, hk.ex⟩
      | false => exact hk.nx _ _ h1⟩) h
theorem wpBinI_mono {o : Bop} {x y : D} {Q Q' : D → Prop} (hq : ∀ d, Q d → Q' d) (h : wpBinI o x y Q) : wpBinI o x y Q' := by
  unfold wpBinI at h ⊢
  split at h
  · exact hq _ h
  · exact hq _ h
  · exact ⟨h.1, hq _ h.2⟩
  · exact h.elim
theorem wpQx_mono {P : Prg} {c' : Nat} : ∀ (q : Qx) {env : Env} {Q Q' : D → Prop}, (∀ d, Q d → Q' d) → wpQx P c' q env Q → wpQx P c' q env Q'
  | .cst _, _, _, _, hq, h => hq _ h
  | .var _, _, _, _, hq, ⟨d, e, h⟩ => ⟨d, e, hq _ h⟩
  | .isx _, _, _, _, hq, ⟨b, e, h⟩ => ⟨b, e, hq _ h⟩
  | .an a b, _, _, _, hq, h => wpQx_mono a (fun x ⟨c, e, z⟩ => ⟨c, e, by
      cases c with
      | true => exact wpQx_mono b hq z
      | false => exact hq _ z⟩) h
  | .or a b, _, _, _, hq, h => wpQx_mono a (fun x ⟨c, e, z⟩ => ⟨c, e, by
      cases c with
      | true => exact hq _ z
      | false => exact wpQx_mono b hq z⟩) h
  | .no a, _, _, _, hq, h => wpQx_mono a (fun x ⟨c, e, z⟩ => ⟨c, e, hq _ z⟩) h
  | .int a, _, _, _, hq, h => wpQx_mono a (fun x ⟨c, e, z⟩ => ⟨c, e, hq _ z⟩) h
  | .bin o a b, _, _, _, hq, h => wpQx_mono a (fun x z => wpQx_mono b (fun y z => wpBinI_mono hq z) z) h
theorem wpQxs_mono {P : Prg} {c' : Nat} : ∀ (q : List Qx) {env : Env} {Q Q' : List D → Prop}, (∀ d, Q d → Q' d) → wpQxs P c' q env Q → wpQxs P c' q env Q'
  | [], _, _, _, hq, h => hq _ h
  | e :: es, _, _, _, hq, h => wpQx_mono e (fun d z => wpQxs_mono es (fun ds z => hq _ z) z) h
theorem wpQm_mono {P : Prg} {c' : Nat} : ∀ (q : Qm) {env : Env} {S : Store} {K K' : Env → Store → Prop}, (∀ e s, K e s → K' e s) → wpQm P c' q env S K → wpQm P c' q env S K'
  | .asg _ e, _, _, _, _, hk, h => wpQx_mono e (fun d z => hk _ _ z) h
  | .lst _ es, _, _, _, _, hk, h => wpQxs_mono es (fun ds z => ⟨z.1, fun p hp => hk _ _ (z.2 p hp)⟩) h
  | .app _ e, _, _, _, _, hk, ⟨p, e1, x0, e0, h⟩ => ⟨p, e1, x0, e0, wpQx_mono e (fun d ⟨xs, e2, l, z⟩ => ⟨xs, e2, l, hk _ _ z⟩) h⟩
theorem wpQ_mono {P : Prg} {c' : Nat} : ∀ {q : List Qm} {env : Env} {S : Store} {K K' : Env → Store → Prop}, (∀ e s, K e s → K' e s) → wpQ P c' q env S K → wpQ P c' q env S K'
  | [], _, _, _, _, hk, h => hk _ _ h
  | m :: ms, _, _, _, _, hk, h => wpQm_mono m (fun _ _ z => wpQ_mono hk z) h
section
variable {P : Prg} {R RM : Rec} (mR : MonoR R) (mM : MonoR RM)
include mR mM
mutual
theorem wpS_mono : ∀ (s : Sm) {env : Env} {S : Store} {K K' : Kt}, Kt.le K K' → wpS P R RM s env S K → wpS P R RM s env S K'
  | .asg t e, _, _, _, _, hk, h => wpE_mono mR mM e (fun d S1 ⟨env2, a, b⟩ => ⟨env2, a, hk.nx _ _ b⟩) (hk.ex _) h
  | .asgL ts e, _, _, _, _, hk, h => wpE_mono mR mM e (fun d S1 ⟨env2, a, b⟩ => ⟨env2, a, hk.nx _ _ b⟩) (hk.ex _) h
  | .asF a f e, _, _, _, _, hk, h => wpE_mono mR mM e (fun d S1 h1 => wpE_mono mR mM a (fun x S2 ⟨p, c, fs, h2, h3, h4, h5⟩ => ⟨p, c, fs, h2, h3, h4, hk.nx _ _ h5⟩) (hk.ex _) h1) (hk.ex _) h
  | .asS a i e, _, _, _, _, hk, h => wpE_mono mR mM e (fun d S1 h1 => wpE_mono mR mM a (fun x S2 h2 => wpE_mono mR mM i (fun y S3 h3 => by
      rcases h3 with ⟨p, xs, k, j, h1, h2, h3, h4, h5⟩ | ⟨p, xs, h1, h2, h3, h4, h5⟩
      · exact .inl ⟨p, xs, k, j, h1, h2, h3, h4, hk.nx _ _ h5⟩
      · exact .inr ⟨p, xs, h1, h2, h3, h4, hk.nx _ _ h5⟩) (hk.ex _) h2) (hk.ex _) h1) (hk.ex _) h
  | .aug i o e, _, _, _, _, hk, ⟨x, a, h⟩ => ⟨x, a, wpE_mono mR mM e (fun y S1 h1 => wpAug_mono (fun z h2 => hk.nx _ _ h2) h1) (hk.ex _) h⟩
  | .auF a f o e, _, _, _, _, hk, h => wpE_mono mR mM a (fun x S1 ⟨p, c, fs, v, h1, h2, h3, h4⟩ => ⟨p, c, fs, v, h1, h2, h3, wpE_mono mR mM e (fun y S2 h5 => wpAug_mono (fun z ⟨fs', h8, h9, h10⟩ =>
      ⟨fs', h8, h9, hk.nx _ _ h10⟩) h5) (hk.ex _) h4⟩) (hk.ex _) h
  | .auS a i o e, _, _, _, _, hk, h => wpE_mono mR mM a (fun x S1 h1 => wpE_mono mR mM i (fun y S2 h2 => wpGx_mono (fun v h3 => wpE_mono mR mM e (fun w S3 h4 => wpAug_mono (fun z h5 => by
      rcases h5 with ⟨p, xs, k, j, h1, h2, h3, h4, h5⟩ | ⟨p, xs, h1, h2, h3, h4, h5⟩
      · exact .inl ⟨p, xs, k, j, h1, h2, h3, h4, hk.nx _ _ h5⟩
      · exact .inr ⟨p, xs, h1, h2, h3, h4, hk.nx _ _ h5⟩) h4) (hk.ex _) h3) h2) (hk.ex _) h1) (hk.ex _) h
  | .ex e, _, _, _, _, hk, h => wpE_mono mR mM e (fun _ S1 h1 => hk.nx _ _ h1) (hk.ex _) h
  | .ret e, _, _, _, _, hk, h => wpE_mono mR mM e hk.rt (hk.ex _) h
  | .retN, _, _, _, _, hk, h => hk.rt _ _ h
  | .ite t a b, _, _, _, _, hk, h => wpE_mono mR mM t (fun x S1 ⟨c, e, h1⟩ => ⟨c, e, by
      cases c with
      | true => exact wpSs_mono a hk h1
      | false => exact wpSs_mono b hk h1⟩) (hk.ex _) h
  | .for_ t it b, _, _, K, K', hk, h => by
      unfold wpS at h ⊢
      refine wpI_mono mR mM it (fun items guard S1 h1 => ?_) (hk.ex _) h
      refine hold (forLoop_mono hk ?_ items _ _ h1.out)
      exact fun env S K K' hk' h' => wpSs_mono b hk' h'
  | .forD t items e b, _, _, _, _, hk, ⟨a, kvs, h0, h⟩ => ⟨a, kvs, h0, wpE_mono mR mM e (fun x S1 ⟨e1, h1⟩ => ⟨e1, by
      refine hold (forLoop_mono ?_ ?_ _ _ _ h1.out)
      · exact ⟨fun env S z => ⟨z.1, hk.nx _ _ z.2⟩, fun d S z => ⟨z.1, hk.rt _ _ z.2⟩, fun _ _ z => z, fun _ _ z => z, fun _ _ _ z => z⟩
      · exact fun env S K K' hk' h' => wpSs_mono b hk' h'⟩) (fun _ _ z => z) h⟩
  | .while_ t b, _, _, K, K', hk, ⟨_, n, h⟩ => hold ⟨n, by
      refine whileN_mono hk ?_ ?_ n _ _ h
      · exact fun env S Q Q' hq h' => wpE_mono mR mM t hq (hk.ex _) h'
      · exact fun env S K K' hk' h' => wpSs_mono b hk' h'⟩
  | .try_ b c en q, _, _, K, K', hk, h => by
      unfold wpS at h ⊢
      refine wpSs_mono (K := { K with ex := fun env' c' S' => ∃ b, P.sub c' c = some b ∧ if b = true then (∀ a, wpQ P c' q (setO env' en (some (.ref a))) S' fun e2 S2 => K.nx (setO e2 en none) S2) else K.ex env' c' S' }) b ⟨hk.nx, hk.rt, hk.bk, hk.ct, fun env' c' S' z => ?_⟩ h
      obtain ⟨b, e, z⟩ := z
      refine ⟨b, e, ?_⟩
      cases b with
      | true => exact fun a => wpQ_mono (fun _ _ y => hk.nx _ _ y) (z a)
      | false => exact hk.ex _ _ _ z
  | .pass, _, _, _, _, hk, h => hk.nx _ _ h
  | .cont, _, _, _, _, hk, h => hk.ct _ _ h
  | .brk, _, _, _, _, hk, h => hk.bk _ _ h
  | .raise c, _, _, _, _, hk, h => hk.ex _ _ _ h
theorem wpSs_mono : ∀ (s : Sms) {env : Env} {S : Store} {K K' : Kt}, Kt.le K K' → wpSs P R RM s env S K → wpSs P R RM s env S K'
  | .nil, _, _, _, _, hk, h => hk.nx _ _ h
  | .cons s ss, _, _, K, K', hk, h => by
      unfold wpSs at h ⊢
      refine wpS_mono s ?_ h
      exact ⟨fun env S h1 => wpSs_mono ss hk h1, hk.rt, hk.bk, hk.ct, hk.ex⟩
end
end
end SW
/-! SW, part C: how data and store lie in the layer's heap; the operators' rules. -/
namespace SW
open PySem PySem.Spec PyProof.Rows L2

/-! ### how data lie -/
/-- a list that nobody may change: the script -/
def RoL (K : PySem.W.Frag) (H : Hp) (p : Addr) (vs : List V) : Prop := (∃ o, H p = some (.frz o (.lst vs))) ∨
  ∃ (o : Obj) (its : Array Value) (n : Nat), K.lookup p = some o ∧ o.cls = .type "list" ∧ o.dict = none ∧ o.data = .seq its n ∧ its.size ≤ sizeLine ∧ Vals vs its.toList
theorem RoL.sq {K : PySem.W.Frag} {H : Hp} {p : Addr} {vs : List V} (h : RoL K H p vs) : SqL K H p vs := by
  rcases h with ⟨o, h⟩ | h
  · exact .inl (.inr ⟨o, h⟩)
  · exact .inr h
mutual
inductive RV (K : PySem.W.Frag) (H : Hp) : V → D → Prop
  | non : RV K H .non .non
  | bl (b : Bool) : RV K H (.bl b) (.bl b)
  | int (i : Int) : RV K H (.int i) (.int i)
  | str (s : Str) : RV K H (.str s) (.str s)
  | ref (a : Addr) : RV K H (.ref a) (.ref a)
  | tup {p : Addr} {vs : List V} {ds : List D} : SqT K H p vs → RVs K H vs ds → RV K H (.ref p) (.tup ds)
  | rl {p : Addr} {vs : List V} {ds : List D} : RoL K H p vs → RVs K H vs ds → RV K H (.ref p) (.rl ds)
inductive RVs (K : PySem.W.Frag) (H : Hp) : List V → List D → Prop
  | nil : RVs K H [] []
  | cons {v : V} {d : D} {vs : List V} {ds : List D} : RV K H v d → RVs K H vs ds → RVs K H (v :: vs) (d :: ds)
end
def Ext (K : PySem.W.Frag) (H H' : Hp) : Prop := ∀ b xs, (SqT K H b xs → SqT K H' b xs) ∧ (RoL K H b xs → RoL K H' b xs) ∧ ∀ o u, H b = some (.frz o u) → H' b = some (.frz o u)
/-- .. that may let locks go -/
def Ext0 (K : PySem.W.Frag) (H H' : Hp) : Prop := ∀ b xs, (SqT K H b xs → SqT K H' b xs) ∧ (RoL K H b xs → RoL K H' b xs)
theorem Ext.refl {K : PySem.W.Frag} {H : Hp} : Ext K H H := fun _ _ => ⟨fun h => h, fun h => h, fun _ _ h => h⟩
theorem Ext.trans {K : PySem.W.Frag} {H H1 H2 : Hp} (a : Ext K H H1) (b : Ext K H1 H2) : Ext K H H2 := fun c d => ⟨fun h => (b _ _).1 ((a _ _).1 h), fun h => (b c d).2.1 ((a c d).2.1 h), fun o u h => (b c d).2.2 o u ((a c d).2.2 o u h)⟩
section
variable {K : PySem.W.Frag} {H H' : Hp}
mutual
theorem RV.ext (x : Ext K H H') : ∀ {d : D} {v : V}, RV K H v d → RV K H' v d
  | _, _, .non => .non
  | _, _, .bl b => .bl b
  | _, _, .int i => .int i
  | _, _, .str s => .str s
  | _, _, .ref a => .ref a
  | _, _, .tup h r => .tup ((x _ _).1 h) (RVs.ext x r)
  | _, _, .rl h r => .rl ((x _ _).2.1 h) (RVs.ext x r)
theorem RVs.ext (x : Ext K H H') : ∀ {ds : List D} {vs : List V}, RVs K H vs ds → RVs K H' vs ds
  | _, _, .nil => .nil
  | _, _, .cons h r => .cons (RV.ext x h) (RVs.ext x r)
end
mutual
theorem RV.ext0 (x : Ext0 K H H') : ∀ {d : D} {v : V}, RV K H v d → RV K H' v d
  | _, _, .non => .non
  | _, _, .bl b => .bl b
  | _, _, .int i => .int i
  | _, _, .str s => .str s
  | _, _, .ref a => .ref a
  | _, _, .tup h r => .tup ((x _ _).1 h) (RVs.ext0 x r)
  | _, _, .rl h r => .rl ((x _ _).2 h) (RVs.ext0 x r)
theorem RVs.ext0 (x : Ext0 K H H') : ∀ {ds : List D} {vs : List V}, RVs K H vs ds → RVs K H' vs ds
  | _, _, .nil => .nil
  | _, _, .cons h r => .cons (RV.ext0 x h) (RVs.ext0 x r)
end
theorem RVs.length : ∀ {vs : List V} {ds : List D}, RVs K H vs ds → vs.length = ds.length
  | _, _, .nil => rfl
  | _, _, .cons _ r => congrArg (· + 1) r.length
theorem RVs.append : ∀ {vs ws : List V} {ds es : List D}, RVs K H vs ds → RVs K H ws es → RVs K H (vs ++ ws) (ds ++ es)
  | _, _, _, _, .nil, q => q
  | _, _, _, _, .cons h r, q => .cons h (r.append q)
theorem RVs.rep {vs : List V} {ds : List D} (r : RVs K H vs ds) : ∀ n, RVs K H (List.replicate n vs).flatten (List.replicate n ds).flatten
  | 0 => .nil
  | n + 1 => by
    rw [List.replicate_succ, List.replicate_succ, List.flatten_cons, List.flatten_cons]
    exact r.append (RVs.rep r n)
theorem RVs.get : ∀ {vs : List V} {ds : List D} {i : Nat} {d : D}, RVs K H vs ds → ds[i]? = some d → ∃ v, vs[i]? = some v ∧ RV K H v d
  | _, _, _, _, .nil, h => by simp at h
  | _, _, 0, _, .cons h r, e => by simp at e; subst e; exact ⟨_, rfl, h⟩
  | _, _, i + 1, _, .cons h r, e => by
    obtain ⟨v, a, b⟩ := r.get (i := i) (by simpa using e)
    exact ⟨v, by simpa using a, b⟩
theorem RVs.get' : ∀ {vs : List V} {ds : List D} {i : Nat} {v : V}, RVs K H vs ds → vs[i]? = some v → ∃ d, ds[i]? = some d ∧ RV K H v d
  | _, _, _, _, .nil, h => by simp at h
  | _, _, 0, _, .cons h r, e => by simp at e; subst e; exact ⟨_, rfl, h⟩
  | _, _, i + 1, _, .cons h r, e => by
    obtain ⟨v, a, b⟩ := r.get' (i := i) (by simpa using e)
    exact ⟨v, by simpa using a, b⟩
theorem RVs.take : ∀ {vs : List V} {ds : List D} (n : Nat), RVs K H vs ds → RVs K H (vs.take n) (ds.take n)
  | _, _, 0, _ => .nil
  | _, _, _ + 1, .nil => .nil
  | _, _, n + 1, .cons h r => .cons h (r.take n)
theorem RVs.drop : ∀ {vs : List V} {ds : List D} (n : Nat), RVs K H vs ds → RVs K H (vs.drop n) (ds.drop n)
  | _, _, 0, r => r
  | _, _, _ + 1, .nil => .nil
  | _, _, n + 1, .cons h r => r.drop n
theorem RVs.set {v : V} {d : D} (q : RV K H v d) : ∀ {vs : List V} {ds : List D} (n : Nat), RVs K H vs ds → RVs K H (vs.set n v) (ds.set n d)
  | _, _, _, .nil => .nil
  | _, _, 0, .cons h r => .cons q r
  | _, _, n + 1, .cons h r => .cons h (r.set q n)
theorem RVs.atI {vs : List V} {ds : List D} {i : Int} {d : D} (r : RVs K H vs ds) (h : L2.atI ds i = some d) : ∃ v, L2.atI vs i = some v ∧ RV K H v d := by
  unfold L2.atI at h ⊢
  rw [r.length]
  cases e : ixN ds.length i with
  | none => rw [e] at h; cases h
  | some j =>
    rw [e] at h
    exact r.get h
theorem RVs.cut {vs : List V} {ds : List D} (r : RVs K H vs ds) (lo hi : Option Int) : RVs K H (cutV vs lo hi) (cutL ds lo hi) := by
  unfold cutV cutL
  rw [r.length]
  exact (r.drop _).take _
end

/-- the constants of the meaning: the written part, the names of ids, the classes' places -/
structure Cn where
  K : PySem.W.Frag
  nm : Nat → Str
  ca : Nat → Addr
  isC : Nat → Prop
  isF : Nat → Prop
inductive RFs (C : Cn) (H : Hp) : List (Str × V) → List (Nat × D) → Prop
  | nil : RFs C H [] []
  | cons {f : Nat} {v : V} {d : D} {r : List (Str × V)} {r' : List (Nat × D)} : C.isF f → RV C.K H v d → RFs C H r r' → RFs C H ((C.nm f, v) :: r) ((f, d) :: r')
def kD : Key → D
  | .inl i => .int i
  | .inr s => .str s
inductive RKs (C : Cn) (H : Hp) : List (Key × V) → List (D × D) → Prop
  | nil : RKs C H [] []
  | cons {k : Key} {v : V} {d : D} {r : List (Key × V)} {r' : List (D × D)} : RV C.K H v d → RKs C H r r' → RKs C H ((k, v) :: r) ((kD k, d) :: r')
def CellR (C : Cn) (H : Hp) (a : Addr) : Cell → Prop
  | .lst ds => ∃ vs, H a = some (.lst vs) ∧ RVs C.K H vs ds
  | .dic kvs => ∃ kvs', H a = some (.dK kvs') ∧ RKs C H kvs' kvs
  | .ins c fs => ∃ dx fs', H a = some (.ins (C.ca c) dx fs') ∧ RFs C H fs' fs ∧ C.isC c
  | .fz (.dic kvs) => ∃ o kvs', H a = some (.frz o (.dK kvs')) ∧ RKs C H kvs' kvs
  | .fz _ => False
def SOk (C : Cn) (H : Hp) (S : Store) : Prop := ∀ a c, S a = some c → CellR C H a c
theorem RFs.ext {C : Cn} {H H' : Hp} (x : Ext C.K H H') : ∀ {l : List (Str × V)} {m : List (Nat × D)}, RFs C H l m → RFs C H' l m
  | _, _, .nil => .nil
  | _, _, .cons f h r => .cons f (h.ext x) (r.ext x)
theorem RKs.ext {C : Cn} {H H' : Hp} (x : Ext C.K H H') : ∀ {l : List (Key × V)} {m : List (D × D)}, RKs C H l m → RKs C H' l m
  | _, _, .nil => .nil
  | _, _, .cons h r => .cons (h.ext x) (r.ext x)
theorem CellR.ext {C : Cn} {H H' : Hp} {a : Addr} (x : Ext C.K H H') (h : H' a = H a) : ∀ {c : Cell}, CellR C H a c → CellR C H' a c
  | .lst ds, ⟨vs, e, r⟩ => ⟨vs, h.trans e, r.ext x⟩
  | .dic kvs, ⟨vs, e, r⟩ => ⟨vs, h.trans e, r.ext x⟩
  | .ins c fs, ⟨dx, fs', e, r, z⟩ => ⟨dx, fs', h.trans e, r.ext x, z⟩
  | .fz (.dic kvs), ⟨o, vs, e, r⟩ => ⟨o, vs, h.trans e, r.ext x⟩
theorem RFs.ext0 {C : Cn} {H H' : Hp} (x : Ext0 C.K H H') : ∀ {l : List (Str × V)} {m : List (Nat × D)}, RFs C H l m → RFs C H' l m
  | _, _, .nil => .nil
  | _, _, .cons f h r => .cons f (h.ext0 x) (r.ext0 x)
theorem RKs.ext0 {C : Cn} {H H' : Hp} (x : Ext0 C.K H H') : ∀ {l : List (Key × V)} {m : List (D × D)}, RKs C H l m → RKs C H' l m
  | _, _, .nil => .nil
  | _, _, .cons h r => .cons (h.ext0 x) (r.ext0 x)
theorem CellR.ext0 {C : Cn} {H H' : Hp} {a : Addr} (x : Ext0 C.K H H') (h : H' a = H a) : ∀ {c : Cell}, CellR C H a c → CellR C H' a c
  | .lst ds, ⟨vs, e, r⟩ => ⟨vs, h.trans e, r.ext0 x⟩
  | .dic kvs, ⟨vs, e, r⟩ => ⟨vs, h.trans e, r.ext0 x⟩
  | .ins c fs, ⟨dx, fs', e, r, z⟩ => ⟨dx, fs', h.trans e, r.ext0 x, z⟩
  | .fz (.dic kvs), ⟨o, vs, e, r⟩ => ⟨o, vs, h.trans e, r.ext0 x⟩
/-- new objects, changed objects -/
theorem Ext.upd {K : PySem.W.Frag} {H : Hp} {p : Addr} {o : HO} (h : ∀ xs, ¬ Rd H p (.tup xs)) (h2 : ∀ o u, H p ≠ some (.frz o u)) : Ext K H (L2.upd H p o) := fun b xs => ⟨fun q => by
  rcases q with q | q
  · have ne : b ≠ p := fun e => h xs (e ▸ q)
    refine .inl ?_
    rcases q with q | ⟨o', q⟩
    · exact .inl ((upd_ne ne).trans q)
    · exact .inr ⟨o', (upd_ne ne).trans q⟩
  · exact .inr q, fun q => by
  rcases q with ⟨o', q⟩ | q
  · have ne : b ≠ p := fun e => h2 o' _ (e ▸ q)
    exact .inl ⟨o', (upd_ne ne).trans q⟩
  · exact .inr q, fun o' u q => by
  have ne : b ≠ p := fun e => h2 o' u (e ▸ q)
  exact (upd_ne ne).trans q⟩
theorem Ext.new {K : PySem.W.Frag} {H : Hp} {p : Addr} {o : HO} (h : H p = none) : Ext K H (L2.upd H p o) := Ext.upd (fun xs q => by
  rcases q with q | ⟨o, q⟩ <;> rw [h] at q <;> cases q) fun o xs q => by rw [h] at q; cases q
def Chg : HO → Prop
  | .lst _ => True
  | .dK _ => True
  | .ins _ _ _ => True
  | _ => False
theorem Ext.at {K : PySem.W.Frag} {H : Hp} {p : Addr} {o u : HO} (h : H p = some u) (n : Chg u) : Ext K H (L2.upd H p o) := Ext.upd (fun xs q => by
  rcases q with q | ⟨o, q⟩ <;> rw [h] at q <;> cases q <;> exact n) fun o xs q => by rw [h] at q; cases q; exact n
theorem CellR.some {C : Cn} {H : Hp} {a : Addr} : ∀ {c : Cell}, CellR C H a c → H a ≠ none
  | .lst ds, ⟨vs, e, r⟩ => by rw [e]; simp
  | .dic kvs, ⟨vs, e, r⟩ => by rw [e]; simp
  | .ins c fs, ⟨dx, fs', e, r⟩ => by rw [e]; simp
  | .fz (.dic kvs), ⟨o, vs, e, r⟩ => by rw [e]; simp
def nofz : Cell → Bool
  | .fz _ => false
  | _ => true
theorem CellR.ups0 {C : Cn} {H : Hp} {a : Addr} : ∀ {c : Cell}, nofz c = true → CellR C H a c → ∃ u, H a = Option.some u ∧ Chg u
  | .lst ds, _, ⟨vs, e, r⟩ => ⟨_, e, trivial⟩
  | .dic kvs, _, ⟨vs, e, r⟩ => ⟨_, e, trivial⟩
  | .ins c fs, _, ⟨dx, fs', e, r⟩ => ⟨_, e, trivial⟩
  | .fz _, h, _ => Bool.noConfusion h
theorem CellR.ups {C : Cn} {H : Hp} {a : Addr} {c : Cell} (h : CellR C H a c) (hf : nofz c = true := by rfl) : ∃ u, H a = Option.some u ∧ Chg u := h.ups0 hf
section
variable {C : Cn} {H H' : Hp} {S : Store}
theorem SOk.none_of (ok : SOk C H S) {p : Addr} (h : H p = none) : S p = none := by
  cases e : S p with
  | none => rfl
  | some c => exact ((ok p c e).some h).elim
/-- a new cell -/
theorem SOk.new (ok : SOk C H S) {p : Addr} {o : HO} {c : Cell} (h : H p = none) (n : CellR C (L2.upd H p o) p c) : SOk C (L2.upd H p o) (S.upd p c) := fun a c' e => by
  by_cases ea : a = p
  · subst ea
    rw [Store.upd_same] at e
    cases e
    exact n
  · rw [Store.upd_ne ea] at e
    exact (ok a c' e).ext (Ext.new h) (upd_ne ea)
/-- a new thing that is no cell -/
theorem SOk.new0 (ok : SOk C H S) {p : Addr} {o : HO} (h : H p = none) : SOk C (L2.upd H p o) S := fun a c' e => by
  have ea : a ≠ p := fun z => by
    subst z
    rw [ok.none_of h] at e
    cases e
  exact (ok a c' e).ext (Ext.new h) (upd_ne ea)
/-- a cell is changed -/
theorem SOk.put (ok : SOk C H S) {p : Addr} {o : HO} {c c0 : Cell} (h : S p = some c0) (n : CellR C (L2.upd H p o) p c) (hf : nofz c0 = true := by rfl) : Ext C.K H (L2.upd H p o) ∧ SOk C (L2.upd H p o) (S.upd p c) := by
  obtain ⟨u, hu, hn⟩ := (ok p c0 h).ups hf
  have x : Ext C.K H (L2.upd H p o) := Ext.at hu hn
  refine ⟨x, fun a c' e => ?_⟩
  by_cases ea : a = p
  · subst ea
    rw [Store.upd_same] at e
    cases e
    exact n
  · rw [Store.upd_ne ea] at e
    exact (ok a c' e).ext x (upd_ne ea)
theorem SOk.lst (ok : SOk C H S) {p : Addr} {ds : List D} (h : S p = some (.lst ds)) : ∃ vs, H p = some (.lst vs) ∧ RVs C.K H vs ds := ok p _ h
theorem SOk.dic (ok : SOk C H S) {p : Addr} {kvs : List (D × D)} (h : S p = some (.dic kvs)) : ∃ vs, H p = some (.dK vs) ∧ RKs C H vs kvs := ok p _ h
theorem SOk.ins (ok : SOk C H S) {p : Addr} {c : Nat} {fs : List (Nat × D)} (h : S p = some (.ins c fs)) : ∃ dx fs', H p = some (.ins (C.ca c) dx fs') ∧ RFs C H fs' fs ∧ C.isC c := ok p _ h
end
/-- what is wanted of a value, of a place in the layer's heap -/
def QV (C : Cn) (H : Hp) (Q : VK) : PQ := fun d S' => ∀ v H', Ext C.K H H' → SOk C H' S' → RV C.K H' v d → Q v H'
theorem QV.at {C : Cn} {H : Hp} {S : Store} {Q : VK} {d : D} {v : V} (h : QV C H Q d S) (ok : SOk C H S) (r : RV C.K H v d) : Q v H := h v H Ext.refl ok r
theorem QV.new {C : Cn} {H : Hp} {S : Store} {Q : VK} {ds : List D} {vs : List V} {p : Addr} (h : ∀ p, S p = none → QV C H Q (.ref p) (S.upd p (.lst ds))) (ok : SOk C H S) (r : RVs C.K H vs ds) (hp : H p = none) : Q (.ref p) (L2.upd H p (.lst vs)) := by
  have x : Ext C.K H (L2.upd H p (.lst vs)) := Ext.new hp
  exact h p (ok.none_of hp) _ _ x (ok.new hp ⟨vs, upd_same, r.ext x⟩) (.ref p)
theorem QV.tup {C : Cn} {H : Hp} {S : Store} {Q : VK} {ds : List D} {vs : List V} {p : Addr} (h : QV C H Q (.tup ds) S) (ok : SOk C H S) (r : RVs C.K H vs ds) (hp : H p = none) : Q (.ref p) (L2.upd H p (.tup vs)) := by
  have x : Ext C.K H (L2.upd H p (.tup vs)) := Ext.new hp
  exact h _ _ x (ok.new0 hp) (.tup (.of upd_same) (r.ext x))
/-- a rule of two values -/
def R2D (C : Cn) (w : D → D → Store → PQ → Prop) : R2 := fun x y H Q => ∃ dx dy S, RV C.K H x dx ∧ RV C.K H y dy ∧ SOk C H S ∧ w dx dy S (QV C H Q)
section
variable {X : Cx} {C : Cn} (hK : X.K = C.K) (hu : X.A.units + 64 < cLine)
include hK
theorem opr_add : OpR X (binaryOp .Add) (R2D C (wpBin .add)) := by
  intro pins s σ H x y v u Q I rx ry h
  obtain ⟨dx, dy, S, r1, r2, ok, h⟩ := h
  unfold wpBin at h
  split at h <;> (try contradiction)
  · cases r1; cases r2
    exact op_add pins s σ H _ _ v u Q I rx ry ⟨_, _, rfl, rfl, h.at ok (.int _)⟩
  · cases r1; cases r2
    exact op_add_str pins s σ H _ _ v u Q I rx ry ⟨_, _, rfl, rfl, h.1, h.2.at ok (.str _)⟩
  · obtain ⟨hl, h⟩ := h
    rename_i xs ys _ _
    cases r1 with
    | tup t1 q1 =>
      cases r2 with
      | tup t2 q2 =>
        refine op_catA pins s σ H _ _ v u Q I rx ry ⟨_, _, _, _, rfl, rfl, hK ▸ t1, hK ▸ t2, by rw [q1.length, q2.length]; exact hl, fun e => ?_, fun _ e => ?_, fun _ _ p hp => ?_⟩
        · subst e
          cases q1
          exact h.at ok (.tup t2 q2)
        · subst e
          cases q2
          rw [List.append_nil] at h
          exact h.at ok (.tup t1 q1)
        · exact h.tup ok (q1.append q2) hp
  · obtain ⟨xs, ys, h1, h2, hl, h⟩ := h
    obtain ⟨vs, e1, q1⟩ := ok.lst h1
    obtain ⟨ws, e2, q2⟩ := ok.lst h2
    cases r1; cases r2
    exact op_cat pins s σ H _ _ v u Q I rx ry ⟨_, _, _, _, rfl, rfl, e1, e2, by rw [q1.length, q2.length]; exact hl, fun p hp => QV.new h ok (q1.append q2) hp⟩
theorem opr_sub : OpR X (binaryOp .Sub) (R2D C (wpBin .sub)) := by
  intro pins s σ H x y v u Q I rx ry h
  obtain ⟨dx, dy, S, r1, r2, ok, h⟩ := h
  unfold wpBin at h
  split at h <;> (try contradiction)
  cases r1; cases r2
  exact op_sub pins s σ H _ _ v u Q I rx ry ⟨_, _, rfl, rfl, h.at ok (.int _)⟩
theorem opr_mul : OpR X (binaryOp .Mult) (R2D C (wpBin .mul)) := by
  intro pins s σ H x y v u Q I rx ry h
  obtain ⟨dx, dy, S, r1, r2, ok, h⟩ := h
  unfold wpBin at h
  split at h <;> (try contradiction)
  · obtain ⟨xs, h1, h2, h3, h4, h5⟩ := h
    cases r1; cases r2
    obtain ⟨vs, e, r⟩ := ok.lst h1
    exact op_rep pins s σ H _ _ v u Q I rx ry ⟨_, _, vs, rfl, rfl, e, h2, h3, by rw [r.length]; exact h4, fun p hp => QV.new h5 ok (r.rep _) hp⟩
  · cases r1; cases r2
    rcases h.1 with c | c
    · exact op_mul pins s σ H _ _ v u Q I rx ry ⟨_, _, rfl, rfl, c, h.2.at ok (.int _)⟩
    · exact op_mulW pins s σ H _ _ v u Q I rx ry ⟨_, _, rfl, rfl, c, h.2.at ok (.int _)⟩
theorem opr_fdiv : OpR X (binaryOp .FloorDiv) (R2D C (wpBin .fdiv)) := by
  intro pins s σ H x y v u Q I rx ry h
  obtain ⟨dx, dy, S, r1, r2, ok, h⟩ := h
  unfold wpBin at h
  split at h <;> (try contradiction)
  cases r1; cases r2
  exact op_fdiv pins s σ H _ _ v u Q I rx ry ⟨_, _, rfl, rfl, h.1, h.2.at ok (.int _)⟩
theorem opr_mod : OpR X (binaryOp .Mod) (R2D C (wpBin .mod)) := by
  intro pins s σ H x y v u Q I rx ry h
  obtain ⟨dx, dy, S, r1, r2, ok, h⟩ := h
  unfold wpBin at h
  split at h <;> (try contradiction)
  cases r1; cases r2
  exact op_mod pins s σ H _ _ v u Q I rx ry ⟨_, _, rfl, rfl, h.1, h.2.at ok (.int _)⟩
theorem opr_pow : OpR X (binaryOp .Pow) (R2D C (wpBin .pow)) := by
  intro pins s σ H x y v u Q I rx ry h
  obtain ⟨dx, dy, S, r1, r2, ok, h⟩ := h
  unfold wpBin at h
  split at h <;> (try contradiction)
  cases r1; cases r2
  exact op_pow pins s σ H _ _ v u Q I rx ry ⟨_, _, rfl, rfl, h.1, h.2.at ok (.int _)⟩
end
end SW
/-! SW, part D: comparisons, subscripts, built-in functions and methods. -/
namespace SW
open PySem PySem.Spec PyProof.Rows L2
section
variable {K : PySem.W.Frag} {H : Hp}
theorem RVs.ints : ∀ {ds : List D} {vs : List V} {ns : List Int}, RVs K H vs ds → intsOf ds = some ns → vs = ns.map V.int
  | [], _, ns, r, h => by
    cases r
    cases h
    rfl
  | .int i :: r, _, ns, .cons (.int _) q, h => by
    unfold intsOf at h
    cases e : intsOf r with
    | none => rw [e] at h; cases h
    | some ms =>
      rw [e] at h
      cases h
      rw [q.ints e]
      rfl
theorem RVs.strs : ∀ {ds : List D} {vs : List V} {ns : List Str}, RVs K H vs ds → strsOf ds = some ns → vs = ns.map V.str
  | [], _, ns, r, h => by
    cases r
    cases h
    rfl
  | .str i :: r, _, ns, .cons (.str _) q, h => by
    unfold strsOf at h
    cases e : strsOf r with
    | none => rw [e] at h; cases h
    | some ms =>
      rw [e] at h
      cases h
      rw [q.strs e]
      rfl
theorem RVs.bls : ∀ {ds : List D} {vs : List V} {ns : List Bool}, RVs K H vs ds → blsOf ds = some ns → vs = ns.map V.bl
  | [], _, ns, r, h => by
    cases r
    cases h
    rfl
  | .bl i :: r, _, ns, .cons (.bl _) q, h => by
    unfold blsOf at h
    cases e : blsOf r with
    | none => rw [e] at h; cases h
    | some ms =>
      rw [e] at h
      cases h
      rw [q.bls e]
      rfl
theorem RVs.ofInts : ∀ {ns : List Int}, RVs K H (ns.map V.int) (ns.map D.int)
  | [] => .nil
  | _ :: _ => .cons (.int _) RVs.ofInts
mutual
theorem dp_of {C : Cn} {S : Store} (ok : SOk C H S) : ∀ (n : Nat) (d : D) (v : V) (p : PyData), RV C.K H v d → toPD n S d = some p → Dp C.K H v p
  | 0, _, _, _, _, h => by unfold toPD at h; cases h
  | n + 1, .non, _, _, .non, h => by unfold toPD at h; cases h; exact .non
  | n + 1, .bl b, _, _, .bl _, h => by unfold toPD at h; cases h; exact .bl b
  | n + 1, .int b, _, _, .int _, h => by unfold toPD at h; cases h; exact .int b
  | n + 1, .str b, _, _, .str _, h => by unfold toPD at h; cases h; exact .str b
  | n + 1, .rl b, _, _, _, h => by unfold toPD at h; cases h
  | n + 1, .tup xs, _, p, .tup t r, h => by
    unfold toPD at h
    cases e : toPDs n S xs with
    | none => rw [e] at h; cases h
    | some ps => rw [e] at h; cases h; exact .tup t (dps_of ok n xs _ ps r e)
  | n + 1, .ref a, _, p, .ref _, h => by
    unfold toPD at h
    cases ea : S a with
    | none => rw [ea] at h; cases h
    | some c =>
      rw [ea] at h
      cases c with
      | lst xs =>
        have h : Option.map PyData.list (toPDs n S xs) = some p := h
        obtain ⟨vs, e1, q⟩ := ok.lst ea
        cases e : toPDs n S xs with
        | none => rw [e] at h; cases h
        | some ps => rw [e] at h; cases h; exact .lst (.of e1) (dps_of ok n xs _ ps q e)
      | dic _ => cases h
      | ins _ _ => cases h
      | fz _ => cases h
theorem dps_of {C : Cn} {S : Store} (ok : SOk C H S) : ∀ (n : Nat) (ds : List D) (vs : List V) (ps : List PyData), RVs C.K H vs ds → toPDs n S ds = some ps → DpAll C.K H vs ps
  | _, [], _, _, .nil, h => by unfold toPDs at h; cases h; exact .nil
  | 0, _ :: _, _, _, _, h => by unfold toPDs at h; cases h
  | n + 1, x :: xs, _, ps, .cons r1 r2, h => by
    unfold toPDs at h
    cases e : toPD n S x with
    | none => rw [e] at h; cases h
    | some p =>
      rw [e] at h
      have h : (match toPDs n S xs with | none => none | some ps => some (p :: ps)) = some ps := h
      cases e2 : toPDs n S xs with
      | none => rw [e2] at h; cases h
      | some qs =>
        rw [e2] at h
        cases h
        exact .cons (dp_of ok n x _ p r1 e) (dps_of ok n xs _ qs r2 e2)
end
end
theorem lexAt_gt : ∀ (ns ms : List Int) (k i : Nat), k = min ns.length ms.length - i →
    Ob.lexAt (fun j => decide (ns.getD j 0 = ms.getD j 0)) (fun j => decide (ms.getD j 0 < ns.getD j 0)) (decide (ns.length > ms.length)) i k = HT.lexLt (ms.drop i) (ns.drop i) ∨ min ns.length ms.length < i
  | ns, ms, 0, i, hk => by
    by_cases hi : min ns.length ms.length < i
    · exact .inr hi
    · refine .inl ?_
      rw [Ob.lexAt_zero]
      have e : i = min ns.length ms.length := by omega
      by_cases hl : ns.length > ms.length
      · rw [decide_eq_true hl]
        have e1 : ms.drop i = [] := List.drop_eq_nil_of_le (by omega)
        have e2 : ∃ x r, ns.drop i = x :: r := by
          cases q : ns.drop i with
          | nil => have := congrArg List.length q; rw [List.length_drop] at this; simp at this; omega
          | cons x r => exact ⟨x, r, rfl⟩
        obtain ⟨x, r, e2⟩ := e2
        rw [e1, e2] <;> rfl
      · rw [decide_eq_false hl]
        have e1 : ns.drop i = [] := List.drop_eq_nil_of_le (by omega)
        rw [e1]
        cases ms.drop i <;> rfl
  | ns, ms, k + 1, i, hk => by
    refine .inl ?_
    have h1 : i < ns.length := by omega
    have h2 : i < ms.length := by omega
    rw [Ob.lexAt_succ, List.drop_eq_getElem_cons h1, List.drop_eq_getElem_cons h2]
    have g1 : ns.getD i 0 = ns[i] := by simp [h1]
    have g2 : ms.getD i 0 = ms[i] := by simp [h2]
    rw [g1, g2]
    show _ = if ms[i] = ns[i] then HT.lexLt (ms.drop (i + 1)) (ns.drop (i + 1)) else decide (ms[i] < ns[i])
    by_cases he : ns[i] = ms[i]
    · rw [if_pos (decide_eq_true he), if_pos he.symm]
      rcases lexAt_gt ns ms k (i + 1) (by omega) with h | h
      · exact h
      · omega
    · rw [if_neg (by simpa using he), if_neg (fun q => he q.symm)]
section
variable {X : Cx} {C : Cn} (hK : X.K = C.K) (hu : X.A.units + 64 < cLine)
/-- a comparison of two values -/
def CopR (C : Cn) (o : Cop) : R2 := R2D C fun x y S Q => wpCop o x y S fun c => Q (.bl c) S
theorem gt_tup (hu : X.A.units < cLine) {pins : List (Addr × Obj)} {s : Shared} {σ : L2.St} {H : Hp} {a b : Addr} {ns ms : List Int} {Q : VK} (I : Inv X pins σ H s)
    (ha : SqT X.K H a (ns.map V.int)) (hb : SqT X.K H b (ms.map V.int)) (q : Q (.bl (HT.lexLt ms ns)) H) : wpAny (model X.prog X.w) X.A (compareOp .Gt (.ref a) (.ref b)) (EP X pins σ Q) X.xe s := by
  obtain ⟨us, r1, p1, _⟩ := I.tuple ha
  obtain ⟨ws, r2, p2, _⟩ := I.tuple hb
  have i1 : IntsAre us ns := Vals.ints r1
  have i2 : IntsAre ws ms := Vals.ints r2
  have e1 : us.toArray.size = ns.length := (List.size_toArray ..).trans i1.length
  have e2 : ws.toArray.size = ms.length := (List.size_toArray ..).trans i2.length
  have g1 : ∀ j (h : j < us.toArray.size), ∃ t, us.toArray[j] = .int (ns.getD j 0) t := fun j h => IntsAre.int_at i1 _ _ (by simp at h; simp [h])
  have g2 : ∀ j (h : j < ws.toArray.size), ∃ t, ws.toArray[j] = .int (ms.getD j 0) t := fun j h => IntsAre.int_at i2 _ _ (by simp at h; simp [h])
  have R := Ob.RcOp.tuples_gt (A := X.A) (s := s) (e := fun j => decide (ns.getD j 0 = ms.getD j 0)) (r := fun j => decide (ms.getD j 0 < ns.getD j 0)) p1 p2 hu (fun j h1 h2 => by
    obtain ⟨t, q1⟩ := g1 j h1
    obtain ⟨t', q2⟩ := g2 j h2
    rw [q1, q2, ← Bool.beq_eq_decide_eq]
    exact SeqAt.EqAt.int_int _ _ _ _) fun j h1 h2 _ => by
    obtain ⟨t, q1⟩ := g1 j h1
    obtain ⟨t', q2⟩ := g2 j h2
    rw [q1, q2]
    exact Ob.RcOp.gt_int _ _ _ _
  rw [e1, e2] at R
  rcases lexAt_gt ns ms (min ns.length ms.length) 0 rfl with h | h
  · rw [h] at R
    exact R X.prog X.w X.xe (EP X pins σ Q) ⟨.bl _, H, I, rfl, q⟩
  · omega
theorem flatV_of {K : PySem.W.Frag} {H : Hp} {v : V} {d : D} (r : RV K H v d) (h : flatD d = true) : flatV v = true := by
  cases r <;> first | rfl | cases h
theorem flatVs_of {K : PySem.W.Frag} {H : Hp} : ∀ {vs : List V} {ds : List D}, RVs K H vs ds → (∀ d ∈ ds, flatD d = true) → vs.all flatV = true
  | _, _, .nil, _ => rfl
  | _, _, .cons h r, f => by
    rw [List.all_cons, flatV_of h (f _ (by simp)), flatVs_of r fun d hd => f d (by simp [hd])]
    rfl
theorem eqF_of {K : PySem.W.Frag} {H : Hp} {v u : V} {d e : D} (r : RV K H v d) (q : RV K H u e) (h : flatD d = true) (h' : flatD e = true) : eqV v u = eqF d e := by
  cases r <;> cases q <;> first | rfl | cases h | cases h'
theorem inF_of {K : PySem.W.Frag} {H : Hp} {v : V} {d : D} (r : RV K H v d) (h : flatD d = true) : ∀ {vs : List V} {ds : List D}, RVs K H vs ds → (∀ d ∈ ds, flatD d = true) → inV v vs = inF d ds
  | _, _, .nil, _ => rfl
  | _, _, .cons q rs, f => by
    have h1 := inF_of r h rs fun d hd => f d (by simp [hd])
    have h2 := eqF_of q r (f _ (by simp)) h
    show (eqV _ _ || inV _ _) = (eqF _ _ || inF _ _)
    rw [h1, h2]
theorem isNon_of {K : PySem.W.Frag} {H : Hp} {v : V} {d : D} (r : RV K H v d) : decide (v = .non) = isNon d := by
  cases r <;> rfl
theorem kD_eq {k k' : Key} : eqK (kD k) (kD k') = decide (k = k') := by
  cases k <;> cases k' <;> simp [kD, eqK] <;> rfl
theorem kV_of {K : PySem.W.Frag} {H : Hp} {v : V} {k : Key} (r : RV K H v (kD k)) : v = kV k := by
  cases k <;> cases r <;> rfl
theorem RKs.get {C : Cn} {H : Hp} (k : Key) : ∀ {l : List (Key × V)} {m : List (D × D)}, RKs C H l m → match valV l k, getK (kD k) m with
    | some v, some d => RV C.K H v d
    | none, none => True
    | _, _ => False
  | _, _, .nil => trivial
  | _, _, .cons (k := k') (v := v) h r => by
    have ih := RKs.get k r
    unfold getK
    rw [kD_eq]
    by_cases e : k' = k
    · rw [valV_pos (p := (k', v)) e, if_pos (decide_eq_true e)]
      exact h
    · rw [valV_neg (p := (k', v)) e, if_neg (by simpa using e)]
      exact ih
theorem RKs.isSome {C : Cn} {H : Hp} {k : Key} {l : List (Key × V)} {m : List (D × D)} (r : RKs C H l m) : (valV l k).isSome = (getK (kD k) m).isSome := by
  have h := r.get k
  revert h
  cases valV l k <;> cases getK (kD k) m <;> intro h <;> first | rfl | exact h.elim
theorem RKs.val {C : Cn} {H : Hp} {k : Key} {l : List (Key × V)} {m : List (D × D)} {d : D} (r : RKs C H l m) (e : getK (kD k) m = some d) : ∃ v, valV l k = some v ∧ RV C.K H v d := by
  have h := r.get k
  rw [e] at h
  revert h
  cases valV l k <;> intro h
  · exact h.elim
  · exact ⟨_, rfl, h⟩
theorem RKs.length {C : Cn} {H : Hp} : ∀ {l : List (Key × V)} {m : List (D × D)}, RKs C H l m → l.length = m.length
  | _, _, .nil => rfl
  | _, _, .cons _ r => congrArg (· + 1) r.length
theorem key_of {d : D} (h : isKey d = true) : ∃ k : Key, d = kD k := by
  cases d with
  | int i => exact ⟨.inl i, rfl⟩
  | str s => exact ⟨.inr s, rfl⟩
  | _ => cases h
/-- a dict that may be read -/
theorem SOk.rdic {C : Cn} {H : Hp} {S : Store} (ok : SOk C H S) {a : Addr} {kvs : List (D × D)} (h : S.rd a = some (.dic kvs)) : ∃ kvs', Rd H a (.dK kvs') ∧ RKs C H kvs' kvs := by
  unfold Store.rd at h
  cases e : S a with
  | none => rw [e] at h; cases h
  | some c =>
    rw [e] at h
    have h : unfz c = .dic kvs := Option.some.inj h
    cases c with
    | lst _ => cases h
    | ins _ _ => cases h
    | dic _ =>
      cases h
      obtain ⟨l, e1, r⟩ := ok.dic e
      exact ⟨l, .inl e1, r⟩
    | fz c =>
      cases (show c = .dic kvs from h)
      obtain ⟨o, l, e1, r⟩ := ok a _ e
      exact ⟨l, .inr ⟨o, e1⟩, r⟩
theorem SOk.dget {C : Cn} {H : Hp} {S : Store} (ok : SOk C H S) {a : Addr} {kvs : List (D × D)} (h : S.rd a = some (.dic kvs)) (k : Key) :
    ∃ o, DGet H a (kV k) o ∧ (match o, getK (kD k) kvs with | some v, some d => RV C.K H v d | none, none => True | _, _ => False) := by
  obtain ⟨l, e, r⟩ := ok.rdic h
  exact ⟨_, .inl ⟨l, k, e, rfl, rfl⟩, r.get k⟩
section
include hK hu
omit hK hu in
theorem dec_strV (s t : Str) : decide ((V.str s) = (V.str t)) = decide (s = t) := decide_eq_decide.mpr ⟨fun z => by cases z; rfl, fun z => by rw [z]⟩
theorem copr_eq : OpR X (compareOp .Eq) (CopR C .eq) := by
  intro pins s σ H x y v u Q I rx ry h
  obtain ⟨dx, dy, S, r1, r2, ok, h⟩ := h
  have h : wpEq dx dy S fun c => QV C H Q (.bl c) S := h
  unfold wpEq at h
  split at h
  · cases r1
    cases r2
    exact op_eq pins _ σ H _ _ v u Q I rx ry ⟨rfl, by rw [dec_strV]; exact h.at ok (.bl _)⟩
  obtain ⟨n, p, q, e1, e2, s1, s2, h⟩ := h
  exact op_eqD hu pins s σ H x y v u Q I rx ry ⟨p, q, hK ▸ dp_of ok n _ _ _ r1 e1, hK ▸ dp_of ok n _ _ _ r2 e2, s1, s2, h.at ok (.bl _)⟩
theorem copr_ne : OpR X (compareOp .NotEq) (CopR C .ne) := by
  intro pins s σ H x y v u Q I rx ry h
  obtain ⟨dx, dy, S, r1, r2, ok, h⟩ := h
  have h : wpEq dx dy S fun c => QV C H Q (.bl (!c)) S := h
  unfold wpEq at h
  split at h
  · cases r1
    cases r2
    exact op_ne pins _ σ H _ _ v u Q I rx ry ⟨rfl, by rw [dec_strV]; exact h.at ok (.bl _)⟩
  obtain ⟨n, p, q, e1, e2, s1, s2, h⟩ := h
  exact op_neD hu pins s σ H x y v u Q I rx ry ⟨p, q, hK ▸ dp_of ok n _ _ _ r1 e1, hK ▸ dp_of ok n _ _ _ r2 e2, s1, s2, h.at ok (.bl _)⟩
theorem copr_lt : OpR X (compareOp .Lt) (CopR C .lt) := by
  intro pins s σ H x y v u Q I rx ry h
  obtain ⟨dx, dy, S, r1, r2, ok, h⟩ := h
  have h : wpLt dx dy fun c => QV C H Q (.bl c) S := h
  unfold wpLt at h
  split at h
  · cases r1; cases r2
    exact op_lt pins s σ H _ _ v u Q I rx ry ⟨_, _, rfl, rfl, h.at ok (.bl _)⟩
  · obtain ⟨ns, ms, e1, e2, h⟩ := h
    cases r1 with
    | tup t1 q1 =>
      cases r2 with
      | tup t2 q2 =>
        cases q1.ints e1
        cases q2.ints e2
        exact op_ltT (by omega) pins s σ H _ _ v u Q I rx ry ⟨_, _, ns, ms, rfl, rfl, hK ▸ t1, hK ▸ t2, h.at ok (.bl _)⟩
  · exact h.elim
theorem copr_gt : OpR X (compareOp .Gt) (CopR C .gt) := by
  intro pins s σ H x y v u Q I rx ry h
  obtain ⟨dx, dy, S, r1, r2, ok, h⟩ := h
  have h : wpLt dy dx fun c => QV C H Q (.bl c) S := h
  unfold wpLt at h
  split at h
  · cases r1; cases r2
    exact op_gt pins s σ H _ _ v u Q I rx ry ⟨_, _, rfl, rfl, h.at ok (.bl _)⟩
  · obtain ⟨ns, ms, e1, e2, h⟩ := h
    cases r1 with
    | tup t1 q1 =>
      cases r2 with
      | tup t2 q2 =>
        cases q1.ints e2
        cases q2.ints e1
        cases rx; cases ry
        exact gt_tup (by omega) I (hK ▸ t1) (hK ▸ t2) (h.at ok (.bl _))
  · exact h.elim
theorem copr_le : OpR X (compareOp .LtE) (CopR C .le) := by
  intro pins s σ H x y v u Q I rx ry h
  obtain ⟨dx, dy, S, r1, r2, ok, h⟩ := h
  cases r1 <;> first | (exfalso; exact h) | skip
  cases r2 <;> first | (exfalso; exact h) | skip
  have h : QV C H Q (.bl _) S := h
  exact op_le pins s σ H _ _ v u Q I rx ry ⟨_, _, rfl, rfl, h.at ok (.bl _)⟩
theorem copr_ge : OpR X (compareOp .GtE) (CopR C .ge) := by
  intro pins s σ H x y v u Q I rx ry h
  obtain ⟨dx, dy, S, r1, r2, ok, h⟩ := h
  cases r1 <;> first | (exfalso; exact h) | skip
  cases r2 <;> first | (exfalso; exact h) | skip
  have h : QV C H Q (.bl _) S := h
  exact op_ge pins s σ H _ _ v u Q I rx ry ⟨_, _, rfl, rfl, h.at ok (.bl _)⟩
theorem copr_is : OpR X (compareOp .Is) (CopR C .is) := by
  intro pins s σ H x y v u Q I rx ry h
  obtain ⟨dx, dy, S, r1, r2, ok, h⟩ := h
  cases r2 <;> first | (exfalso; cases r1 <;> exact h) | skip
  all_goals first
    | (have h : QV C H Q (.bl (isNon dx)) S := by cases r1 <;> exact h
       refine op_isN pins s σ H _ _ v u Q I rx ry ⟨rfl, ?_⟩
       rw [isNon_of r1]
       exact h.at ok (.bl _))
    | (cases r1 <;> first | (exfalso; exact h) | skip
       have h : QV C H Q (.bl _) S := h
       exact op_is_bl pins s σ H _ _ v u Q I rx ry ⟨_, _, rfl, rfl, h.at ok (.bl _)⟩)
theorem copr_isnot : OpR X (compareOp .IsNot) (CopR C .isnot) := by
  intro pins s σ H x y v u Q I rx ry h
  obtain ⟨dx, dy, S, r1, r2, ok, h⟩ := h
  cases r2 <;> first | (exfalso; cases r1 <;> exact h) | skip
  all_goals first
    | (have h : QV C H Q (.bl (!isNon dx)) S := by cases r1 <;> exact h
       refine op_notN pins s σ H _ _ v u Q I rx ry ⟨rfl, ?_⟩
       rw [isNon_of r1]
       exact h.at ok (.bl _))
    | (cases r1 <;> first | (exfalso; exact h) | skip
       have h : QV C H Q (.bl _) S := h
       exact op_isnot_bl pins s σ H _ _ v u Q I rx ry ⟨_, _, rfl, rfl, h.at ok (.bl _)⟩)
theorem copr_in : OpR X (compareOp .In) (CopR C .in_) := by
  intro pins s σ H x y v u Q I rx ry h
  obtain ⟨dx, dy, S, r1, r2, ok, h⟩ := h
  have h : wpIn dx dy S fun c => QV C H Q (.bl c) S := h
  unfold wpIn at h
  split at h
  · obtain ⟨f1, f2, h⟩ := h
    cases r2 with
    | tup t q =>
      refine op_in_seq pins s σ H _ _ v u Q I rx ry ⟨_, _, rfl, .inr (hK ▸ t), flatV_of r1 f1, flatVs_of q f2, ?_⟩
      rw [if_neg Bool.false_ne_true, inF_of r1 f1 q f2]
      exact h.at ok (.bl _)
  · cases r2
    rcases h with ⟨ys, e, f1, f2, h⟩ | ⟨kvs, e, f, h⟩
    · obtain ⟨vs, e1, q⟩ := ok.lst e
      refine op_in_seq pins s σ H _ _ v u Q I rx ry ⟨_, _, rfl, .inl (.of e1), flatV_of r1 f1, flatVs_of q f2, ?_⟩
      rw [if_neg Bool.false_ne_true, inF_of r1 f1 q f2]
      exact h.at ok (.bl _)
    · obtain ⟨k, rfl⟩ := key_of f
      obtain ⟨o, g, m⟩ := ok.dget e k
      have e1 := kV_of r1
      subst e1
      cases ry
      refine d_in (by omega) I g rx fun s' I' => ⟨.bl _, H, I', rfl, ?_⟩
      have e2 : o.isSome = (getK (kD k) kvs).isSome := by
        revert m
        cases o <;> cases getK (kD k) kvs <;> intro m <;> first | rfl | exact m.elim
      rw [e2]
      exact h.at ok (.bl _)
  · cases r2
    split at h
    · cases r1
      exact op_in_str pins s σ H _ _ v u Q I rx ry ⟨_, _, rfl, rfl, h.at ok (.bl _)⟩
    · exact h.elim
  · exact h.elim
theorem copr_notin : OpR X (compareOp .NotIn) (CopR C .notin) := by
  intro pins s σ H x y v u Q I rx ry h
  obtain ⟨dx, dy, S, r1, r2, ok, h⟩ := h
  have h : wpIn dx dy S fun c => QV C H Q (.bl (!c)) S := h
  unfold wpIn at h
  split at h
  · obtain ⟨f1, f2, h⟩ := h
    cases r2 with
    | tup t q =>
      refine op_notIn_seq pins s σ H _ _ v u Q I rx ry ⟨_, _, rfl, .inr (hK ▸ t), flatV_of r1 f1, flatVs_of q f2, ?_⟩
      rw [if_pos rfl, inF_of r1 f1 q f2]
      exact h.at ok (.bl _)
  · cases r2
    rcases h with ⟨ys, e, f1, f2, h⟩ | ⟨kvs, e, f, h⟩
    · obtain ⟨vs, e1, q⟩ := ok.lst e
      refine op_notIn_seq pins s σ H _ _ v u Q I rx ry ⟨_, _, rfl, .inl (.of e1), flatV_of r1 f1, flatVs_of q f2, ?_⟩
      rw [if_pos rfl, inF_of r1 f1 q f2]
      exact h.at ok (.bl _)
    · obtain ⟨k, rfl⟩ := key_of f
      obtain ⟨o, g, m⟩ := ok.dget e k
      have e1 := kV_of r1
      subst e1
      cases ry
      refine d_notIn (by omega) I g rx fun s' I' => ⟨.bl _, H, I', rfl, ?_⟩
      have e2 : o.isSome = (getK (kD k) kvs).isSome := by
        revert m
        cases o <;> cases getK (kD k) kvs <;> intro m <;> first | rfl | exact m.elim
      rw [e2]
      exact h.at ok (.bl _)
  · cases r2
    split at h
    · cases r1
      exact op_notin_str pins s σ H _ _ v u Q I rx ry ⟨_, _, rfl, rfl, h.at ok (.bl _)⟩
    · exact h.elim
  · exact h.elim
/-- a subscript -/
theorem ixr : IxR X (R2D C fun x y S Q => wpIx x y S fun d => Q d S) := by
  intro value slice pins s σ H x y v u Q I rx ry h hs
  obtain ⟨dx, dy, S, r1, r2, ok, h⟩ := h
  have h : wpIx dx dy S fun d => QV C H Q d S := h
  unfold wpIx at h
  split at h
  · obtain ⟨i, d, rfl, e, h⟩ := h
    cases r2
    cases r1 with
    | tup t q =>
      obtain ⟨w, e1, q1⟩ := q.atI e
      exact ix_tup value slice pins s σ H _ _ v u Q I rx ry ⟨_, _, _, _, rfl, rfl, hK ▸ t, e1, h.at ok q1⟩ hs
  · obtain ⟨i, d, rfl, e, h⟩ := h
    cases r2
    cases r1 with
    | rl t q =>
      obtain ⟨w, e1, q1⟩ := q.atI e
      exact ix_list value slice pins s σ H _ _ v u Q I rx ry ⟨_, _, _, _, rfl, rfl, hK ▸ t.sq, e1, h.at ok q1⟩ hs
  · obtain ⟨i, c, rfl, hl, e, h⟩ := h
    cases r2
    cases r1
    exact ix_str value slice pins s σ H _ _ v u Q I rx ry ⟨_, _, _, rfl, rfl, hl, e, h.at ok (.str _)⟩ hs
  · cases r1
    rcases h with ⟨xs, i, d, e0, rfl, e, h⟩ | ⟨kvs, d, e0, f, e, hq⟩
    · cases r2
      obtain ⟨vs, e2, q⟩ := ok.lst e0
      obtain ⟨w, e1, q1⟩ := q.atI e
      exact ix_list value slice pins s σ H _ _ v u Q I rx ry ⟨_, _, _, _, rfl, rfl, .of e2, e1, h.at ok q1⟩ hs
    · obtain ⟨k, rfl⟩ := key_of f
      have e1 := kV_of r2
      subst e1
      cases rx
      obtain ⟨l, el, rl⟩ := ok.rdic e0
      obtain ⟨w, ew, rw'⟩ := rl.val e
      have g : DGet H _ (kV k) (some w) := .inl ⟨l, k, el, rfl, ew.symm⟩
      have hT := dict_typeIs I g
      unfold subscriptTail
      refine wpAny_bind ?_
      rw [getitemInPython_of_ne hT.not_modules]
      refine wpAny_bind (wpAny_specialOf hT PySem.F.slot_dict_getitem.lookup ?_)
      refine wpAny_pure (wpAny_bind ?_)
      rw [hs]
      refine wpAny_operating (d_getItem (by omega) I g ry fun w' s' I' rw2 => ?_)
      exact wpAny_bind (wpAny_letTemporaryGo (wpAny_pure ⟨w, H, I', rw2, QV.at hq ok rw'⟩))
  · exact h.elim
theorem slr (C' : Cn) (hC : C' = C) : SlR X fun x lo hi H Q => ∃ dx S, RV C.K H x dx ∧ SOk C H S ∧ wpSl dx lo hi S (QV C H Q) := by
  intro pins s σ H x v vl vu lo hi sl Q I rx hs pl pu h
  obtain ⟨dx, S, r1, ok, h⟩ := h
  unfold wpSl at h
  split at h
  · cases r1 with
    | tup t q =>
      rename_i ds p vs
      refine sl_tupA pins s σ H _ v vl vu lo hi sl Q I rx hs pl pu ⟨_, _, rfl, hK ▸ t, fun e => ?_, fun _ p hp => h.tup ok (q.cut lo hi) hp⟩
      have e2 : cutL ds lo hi = ds := by
        unfold cutL
        rw [q.length] at e
        rw [e.1, e.2, List.drop_zero, Nat.sub_zero, List.take_length]
      rw [e2] at h
      exact h.at ok (.tup t q)
  · cases r1
    exact sl_str pins s σ H _ v vl vu lo hi sl Q I rx hs pl pu ⟨_, rfl, h.1, h.2.at ok (.str _)⟩
  · cases r1
    obtain ⟨xs, e, h⟩ := h
    obtain ⟨vs, e1, q⟩ := ok.lst e
    exact sl_list pins s σ H _ v vl vu lo hi sl Q I rx hs pl pu ⟨_, _, rfl, .of e1, fun p hp => QV.new h ok (q.cut lo hi) hp⟩
  · cases r1 with
    | rl t q => exact sl_list pins s σ H _ v vl vu lo hi sl Q I rx hs pl pu ⟨_, _, rfl, hK ▸ t.sq, fun p hp => QV.new h ok (q.cut lo hi) hp⟩
  · exact h.elim
end
end
end SW
/-! SW, part E: built-in functions, methods, isinstance. -/
namespace SW
open PySem PySem.Spec PyProof.Rows L2
/-- a call's arguments, as data -/
def RLD (C : Cn) (w : List D → Store → PQ → Prop) : List V → Hp → VK → Prop := fun vs H Q => ∃ ds S, RVs C.K H vs ds ∧ SOk C H S ∧ w ds S (QV C H Q)
def bltVal : Blt → Value
  | .len => .builtin "len"
  | .int => .type "int"
  | .max => .builtin "max"
  | .min => .builtin "min"
  | .list => .type "list"
  | .tuple => .type "tuple"
  | .sorted => .builtin "sorted"
  | .str => .type "str"
  | .abs => .builtin "abs"
  | .sum => .builtin "sum"
  | .all => .builtin "all"
  | .any => .builtin "any"
  | .bool => .type "bool"
  | .dict => .type "dict"
section
variable {X : Cx} {C : Cn} (hK : X.K = C.K) (hc : X.calm = true) (hu : X.A.units + 64 < cLine)
/-- a sequence that may be read -/
theorem sq_of {H : Hp} {S : Store} (ok : SOk C H S) {v : V} {d : D} {xs : List D} (r : RV C.K H v d) (h : seqOf S d = some xs) :
    ∃ p vs, v = .ref p ∧ RVs C.K H vs xs ∧ (SqL C.K H p vs ∨ (SqT C.K H p vs ∧ d = .tup xs)) := by
  cases r with
  | tup t q => cases h; exact ⟨_, _, rfl, q, .inr ⟨t, rfl⟩⟩
  | rl t q => cases h; exact ⟨_, _, rfl, q, .inl t.sq⟩
  | ref a =>
    simp only [seqOf] at h
    cases e : S a with
    | none => rw [e] at h; cases h
    | some c =>
      rw [e] at h
      cases c with
      | lst ys =>
        cases h
        obtain ⟨vs, e1, q⟩ := ok.lst e
        exact ⟨_, _, rfl, q, .inl (.of e1)⟩
      | dic _ => cases h
      | ins _ _ => cases h
      | fz _ => cases h
  | _ => cases h
/-! max, min of a tuple of ints -/
theorem hold_ints {h : Heap} : ∀ {ns : List Int} {us : List Value}, Vals (ns.map V.int) us → PySem.W.HoldAll h us ns
  | [], us, r => by
    cases r
    exact PySem.W.HoldAll.nil
  | n :: ns, us, r => by
    rw [List.map_cons] at r
    cases r with
    | cons r1 r2 =>
      obtain ⟨t, rfl⟩ := r1
      exact PySem.W.HoldAll.cons ⟨_, .int n t⟩ (hold_ints r2)
theorem maxOf_spec (x : Int) : ∀ xs : List Int, PySem.W.maxOf x xs ∈ x :: xs ∧ ∀ y ∈ x :: xs, y ≤ PySem.W.maxOf x xs := by
  intro xs
  unfold PySem.W.maxOf
  induction xs generalizing x with
  | nil => exact ⟨List.mem_cons_self, fun y hy => by rw [List.mem_singleton] at hy; exact Int.le_of_eq hy⟩
  | cons z zs ih =>
    rw [List.foldl_cons]
    have lt : PySem.W.DatumOrd.lt x z = decide (x < z) := rfl
    rw [lt]
    by_cases h : x < z
    · rw [decide_eq_true h, if_pos rfl]
      obtain ⟨h1, h2⟩ := ih z
      refine ⟨List.mem_cons_of_mem _ h1, fun y hy => ?_⟩
      rcases List.mem_cons.mp hy with e | hy
      · rw [e]
        exact Int.le_trans (Int.le_of_lt h) (h2 z List.mem_cons_self)
      · exact h2 y hy
    · rw [decide_eq_false h, if_neg Bool.false_ne_true]
      obtain ⟨h1, h2⟩ := ih x
      refine ⟨?_, fun y hy => ?_⟩
      · rcases List.mem_cons.mp h1 with e | h1
        · rw [e]; exact List.mem_cons_self
        · exact List.mem_cons_of_mem _ (List.mem_cons_of_mem _ h1)
      · rcases List.mem_cons.mp hy with e | hy
        · exact h2 y (by rw [e]; exact List.mem_cons_self)
        · rcases List.mem_cons.mp hy with e | hy
          · rw [e]
            exact Int.le_trans (Int.not_lt.mp h) (h2 x List.mem_cons_self)
          · exact h2 y (List.mem_cons_of_mem _ hy)
theorem minOf_spec (x : Int) : ∀ xs : List Int, PySem.W.minOf x xs ∈ x :: xs ∧ ∀ y ∈ x :: xs, PySem.W.minOf x xs ≤ y := by
  intro xs
  unfold PySem.W.minOf
  induction xs generalizing x with
  | nil => exact ⟨List.mem_cons_self, fun y hy => by rw [List.mem_singleton] at hy; exact Int.le_of_eq hy.symm⟩
  | cons z zs ih =>
    rw [List.foldl_cons]
    have lt : PySem.W.DatumOrd.lt z x = decide (z < x) := rfl
    rw [lt]
    by_cases h : z < x
    · rw [decide_eq_true h, if_pos rfl]
      obtain ⟨h1, h2⟩ := ih z
      refine ⟨List.mem_cons_of_mem _ h1, fun y hy => ?_⟩
      rcases List.mem_cons.mp hy with e | hy
      · rw [e]
        exact Int.le_trans (h2 z List.mem_cons_self) (Int.le_of_lt h)
      · exact h2 y hy
    · rw [decide_eq_false h, if_neg Bool.false_ne_true]
      obtain ⟨h1, h2⟩ := ih x
      refine ⟨?_, fun y hy => ?_⟩
      · rcases List.mem_cons.mp h1 with e | h1
        · rw [e]; exact List.mem_cons_self
        · exact List.mem_cons_of_mem _ (List.mem_cons_of_mem _ h1)
      · rcases List.mem_cons.mp hy with e | hy
        · exact h2 y (by rw [e]; exact List.mem_cons_self)
        · rcases List.mem_cons.mp hy with e | hy
          · rw [e]
            exact Int.le_trans (h2 x List.mem_cons_self) (Int.not_lt.mp h)
          · exact h2 y (List.mem_cons_of_mem _ hy)
def rMaxA (K : PySem.W.Frag) : List V → Hp → VK → Prop := fun vs H Q => ∃ (a : Addr) (ns : List Int), vs = [V.ref a] ∧ (SqL K H a (ns.map V.int) ∨ SqT K H a (ns.map V.int)) ∧ 0 < ns.length ∧ ∀ m, m ∈ ns → (∀ y, y ∈ ns → y ≤ m) → Q (.int m) H
def rMinA (K : PySem.W.Frag) : List V → Hp → VK → Prop := fun vs H Q => ∃ (a : Addr) (ns : List Int), vs = [V.ref a] ∧ (SqL K H a (ns.map V.int) ∨ SqT K H a (ns.map V.int)) ∧ 0 < ns.length ∧ ∀ m, m ∈ ns → (∀ y, y ∈ ns → m ≤ y) → Q (.int m) H
theorem holds_int {h : Heap} {v : Value} {m : Int} (H : PySem.W.Holds h v m) : ∃ t, v = .int m t := by
  obtain ⟨as, r⟩ := H
  have r' : PySem.Reads h v (.int m) as := r
  cases r'
  exact ⟨_, rfl⟩
omit hK in
include hc hu in
theorem cr_maxA : CallR X (.builtin "max") (rMaxA X.K) := by
  intro pins s σ H vs us Q I r ⟨a, ns, e, h, hne, q⟩
  rcases h with h | h
  · exact cr_max hc pins s σ H vs us Q I r ⟨a, ns, e, h, hne, q⟩
  · subst e
    obtain ⟨its, rv, p, _⟩ := I.tuple h
    rw [Vals.ref1 r]
    cases ns with
    | nil => exact absurd hne (by decide)
    | cons x xs =>
      obtain ⟨m1, m2⟩ := maxOf_spec x xs
      refine PySem.W.max_tuple_datum (x := x) (xs := xs) (I.ok.hd hc) (show s.heap.IsTuple a its.toArray from p) (by simpa using hold_ints (h := s.heap) rv) (Nat.lt_of_le_of_lt (show X.A.units + 1 + 0 ≤ X.A.units + 64 by omega) hu) fun i v h' tk hi hh hk => ?_
      obtain ⟨t, rfl⟩ := holds_int hh
      exact ⟨.int _, H, I.kept hk, ⟨_, rfl⟩, q _ m1 m2⟩
omit hK in
include hc hu in
theorem cr_minA : CallR X (.builtin "min") (rMinA X.K) := by
  intro pins s σ H vs us Q I r ⟨a, ns, e, h, hne, q⟩
  rcases h with h | h
  · exact cr_min hc pins s σ H vs us Q I r ⟨a, ns, e, h, hne, q⟩
  · subst e
    obtain ⟨its, rv, p, _⟩ := I.tuple h
    rw [Vals.ref1 r]
    cases ns with
    | nil => exact absurd hne (by decide)
    | cons x xs =>
      obtain ⟨m1, m2⟩ := minOf_spec x xs
      refine PySem.W.min_tuple_datum (x := x) (xs := xs) (I.ok.hd hc) (show s.heap.IsTuple a its.toArray from p) (by simpa using hold_ints (h := s.heap) rv) (Nat.lt_of_le_of_lt (show X.A.units + 1 + 0 ≤ X.A.units + 64 by omega) hu) fun i v h' tk hi hh hk => ?_
      obtain ⟨t, rfl⟩ := holds_int hh
      exact ⟨.int _, H, I.kept hk, ⟨_, rfl⟩, q _ m1 m2⟩
include hc in
/-- sum of a list, a tuple of ints -/
theorem cr_sumA : CallR X (.builtin "sum") (fun vs H Q => ∃ (a : Addr) (ns : List Int), vs = [V.ref a] ∧ (SqL X.K H a (ns.map V.int) ∨ SqT X.K H a (ns.map V.int)) ∧ Q (.int ns.sum) H) := by
  intro pins s σ H vs us Q I r ⟨a, ns, e, h, q⟩
  rcases h with h | h
  · exact cr_sum hc pins s σ H vs us Q I r ⟨a, ns, e, h, q⟩
  · subst e
    obtain ⟨its, rv, p, _⟩ := I.tuple h
    rw [Vals.ref1 r]
    have hi := rv.ints
    obtain ⟨xs, ex⟩ := hi.allInts.items
    have hn : numsOf (intItems xs).toList = ns := by rw [← ex]; exact hi.numsOf
    rw [nums_intItems] at hn
    rw [ex] at p
    refine PySem.W.ktm_sumG (I.ok.hd hc) p fun h' tk t' hk => ?_
    rw [preSum_eq, List.take_of_length_le (by simp), hn]
    exact ⟨.int _, H, I.kept hk, ⟨_, rfl⟩, q⟩
theorem lex_list : ∀ xs ys : List Int, PySem.W.listLt xs ys = HT.lexLt xs ys
  | [], [] => rfl
  | [], _ :: _ => rfl
  | _ :: _, [] => rfl
  | x :: xs, y :: ys => by
    unfold PySem.W.listLt HT.lexLt
    rw [lex_list xs ys]
    rfl
theorem ints_map : ∀ {ys : List D} {n : List Int}, intsOf ys = some n → ys = n.map .int
  | [], n, h => by cases h; rfl
  | y :: ys, n, h => by
    cases y with
    | int i =>
      simp only [intsOf] at h
      cases e : intsOf ys with
      | none => rw [e] at h; cases h
      | some k =>
        rw [e] at h
        cases h
        rw [ints_map e]
        rfl
    | _ => cases h
theorem tups_get {K : PySem.W.Frag} {H : Hp} : ∀ {xs : List D} {ts : List (List Int)} {vs : List V}, tupsOf xs = some ts → RVs K H vs xs →
    ∃ ps : List Addr, vs = ps.map V.ref ∧ ps.length = ts.length ∧ (∀ (i : Nat) p t, ps[i]? = some p → ts[i]? = some t → SqT K H p (t.map V.int)) ∧ xs = ts.map fun t => D.tup (t.map .int)
  | [], ts, vs, h, r => by
    cases h
    cases r
    exact ⟨[], rfl, rfl, fun i p t e => (by simp at e), rfl⟩
  | x :: xs, ts, vs, h, r => by
    cases x with
    | tup ys =>
      simp only [tupsOf] at h
      cases e1 : intsOf ys with
      | none => rw [e1] at h; cases h
      | some n =>
        cases e2 : tupsOf xs with
        | none => rw [e1, e2] at h; cases h
        | some m =>
          rw [e1, e2] at h
          cases h
          cases r with
          | cons r1 r2 =>
            obtain ⟨ps, e3, e4, e5, e6⟩ := tups_get e2 r2
            cases r1 with
            | @tup p ws _ t q =>
              have ew := q.ints e1
              refine ⟨p :: ps, by rw [e3]; rfl, by rw [List.length_cons, e4]; rfl, fun i p' t' h1 h2 => ?_, by rw [e6, ints_map e1]; rfl⟩
              cases i with
              | zero =>
                cases h1
                cases h2
                rw [← ew]
                exact t
              | succ i => exact e5 i p' t' (by simpa using h1) (by simpa using h2)
    | _ => cases h
theorem vals_refs {us : List Value} : ∀ {ps : List Addr} {us : List Value}, Vals (ps.map V.ref) us → us = ps.map Value.ref
  | [], us, r => by cases r; rfl
  | p :: ps, us, r => by
    rw [List.map_cons] at r
    cases r with
    | cons r1 r2 =>
      cases r1
      rw [vals_refs (us := us) r2]
      rfl
theorem lex_asym : ∀ a b : List Int, HT.lexLt a b = true → HT.lexLt b a = false
  | [], [], h => by cases h
  | [], _ :: _, _ => rfl
  | _ :: _, [], h => by cases h
  | x :: xs, y :: ys, h => by
    unfold HT.lexLt at h ⊢
    by_cases e : x = y
    · rw [if_pos e] at h
      rw [if_pos e.symm]
      exact lex_asym xs ys h
    · rw [if_neg e, decide_eq_true_eq] at h
      rw [if_neg (fun z => e z.symm), decide_eq_false_iff_not]
      omega
theorem lex_le_trans : ∀ a b c : List Int, HT.lexLt b a = false → HT.lexLt c b = false → HT.lexLt c a = false
  | [], _, [], _, _ => rfl
  | [], [], _ :: _, _, h => h
  | [], _ :: _, _ :: _, _, _ => rfl
  | _ :: _, [], _, h, _ => by cases h
  | _ :: _, _ :: _, [], _, h => by cases h
  | x :: xs, y :: ys, z :: zs, h1, h2 => by
    unfold HT.lexLt at h1 h2 ⊢
    by_cases e1 : y = x
    · rw [if_pos e1] at h1
      by_cases e2 : z = y
      · rw [if_pos e2] at h2
        rw [if_pos (e2.trans e1)]
        exact lex_le_trans xs ys zs h1 h2
      · rw [if_neg e2, decide_eq_false_iff_not] at h2
        rw [if_neg (by omega), decide_eq_false_iff_not]
        omega
    · rw [if_neg e1, decide_eq_false_iff_not] at h1
      by_cases e2 : z = y
      · rw [if_neg (by omega), decide_eq_false_iff_not]
        omega
      · rw [if_neg e2, decide_eq_false_iff_not] at h2
        rw [if_neg (by omega), decide_eq_false_iff_not]
        omega
theorem lex_irr : ∀ a : List Int, HT.lexLt a a = false
  | [] => rfl
  | x :: xs => by
    unfold HT.lexLt
    rw [if_pos rfl]
    exact lex_irr xs
theorem minOf_specT (x : PySem.W.Tup Int) (xs : List (PySem.W.Tup Int)) : PySem.W.minOf x xs ∈ x :: xs ∧ ∀ y ∈ x :: xs, HT.lexLt y.items (PySem.W.minOf x xs).items = false := by
  unfold PySem.W.minOf
  induction xs generalizing x with
  | nil => exact ⟨List.mem_cons_self, fun y hy => by rw [List.mem_singleton] at hy; rw [hy]; exact lex_irr _⟩
  | cons z zs ih =>
    rw [List.foldl_cons]
    have lt : PySem.W.DatumOrd.lt z x = HT.lexLt z.items x.items := lex_list _ _
    rw [lt]
    cases h : HT.lexLt z.items x.items with
    | true =>
      rw [if_pos rfl]
      obtain ⟨h1, h2⟩ := ih z
      refine ⟨List.mem_cons_of_mem _ h1, fun y hy => ?_⟩
      rcases List.mem_cons.mp hy with e | hy
      · rw [e]
        exact lex_le_trans _ _ _ (h2 z List.mem_cons_self) (lex_asym _ _ h)
      · exact h2 y hy
    | false =>
      rw [if_neg Bool.false_ne_true]
      obtain ⟨h1, h2⟩ := ih x
      refine ⟨?_, fun y hy => ?_⟩
      · rcases List.mem_cons.mp h1 with e | h1
        · rw [e]; exact List.mem_cons_self
        · exact List.mem_cons_of_mem _ (List.mem_cons_of_mem _ h1)
      · rcases List.mem_cons.mp hy with e | hy
        · exact h2 y (by rw [e]; exact List.mem_cons_self)
        · rcases List.mem_cons.mp hy with e | hy
          · rw [e]
            exact lex_le_trans _ _ _ (h2 x List.mem_cons_self) h
          · exact h2 y (List.mem_cons_of_mem _ hy)
theorem holds_eq {h : Heap} {v : Value} {x y : PySem.W.Tup Int} (a : PySem.W.Holds h v x) (b : PySem.W.Holds h v y) : x = y := by
  obtain ⟨as, ra⟩ := a
  obtain ⟨bs, rb⟩ := b
  have e := SeqAt.plain_unique _ _ _ _ _ (PySem.W.Datum.plain x) ra rb
  have z := PySem.W.Datum.eqv x y
  rw [← e, SeqAt.eqv_refl_plain _ (PySem.W.Datum.plain x)] at z
  exact of_decide_eq_true z.symm
omit hK in
include hc hu in
/-- the least key of a dict of ints -/
theorem cr_minD : CallR X (.builtin "min") (fun xs H Q => ∃ (a : Addr) (kvs : List (Key × V)) (ks : List Int), xs = [V.ref a] ∧ Rd H a (.dK kvs) ∧ kvs.map (·.1) = ks.map Sum.inl ∧ 0 < ks.length ∧
    ∀ m, m ∈ ks → (∀ y, y ∈ ks → m ≤ y) → Q (.int m) H) := by
  intro pins s σ H xs us Q I r ⟨a, kvs, ks, ex, hd, hks, hne, q⟩
  subst ex
  obtain ⟨u, eu, rx⟩ := vals1 r
  subst eu
  cases rx
  obtain ⟨z, lo, vs, rel, dd⟩ := dk_rd I.hok hd
  obtain ⟨ep, hat⟩ := dd.dictAt
  have hkeys : vs.map (·.1) = ks.map Sum.inl := rel.keys.symm.trans hks
  have hl : vs.length = ks.length := by
    have e := congrArg List.length hkeys
    rw [List.length_map, List.length_map] at e
    exact e
  have hlt : a < s.heap.objs.size := hat.lt_size
  have hsh : ∀ (i : Nat) (v : Value), (∃ (k : Key) (x : Value), vs[i]? = some (k, x) ∧ (mixKind X.prog X.w).is k v = true) → ∃ y t, ks[i]? = some y ∧ v = .int y t := by
    rintro i v ⟨k, x, e1, e2⟩
    have e3 : (vs.map (·.1))[i]? = some k := by rw [List.getElem?_map, e1]; rfl
    rw [hkeys, List.getElem?_map] at e3
    cases e4 : ks[i]? with
    | none => rw [e4] at e3; cases e3
    | some y =>
      rw [e4] at e3
      have e5 : Sum.inl y = k := Option.some.inj e3
      subst e5
      rcases keyIs_shape (show keyIs (Sum.inl y) v = true from e2) with ⟨i, t, ek, ev⟩ | ⟨z, t, ek, ev⟩
      · cases ek
        exact ⟨y, t, rfl, ev⟩
      · cases ek
  cases ks with
  | nil => exact absurd hne (by decide)
  | cons x xs =>
  refine PySem.call_min_walkH (wpAny_pyIter_dict lo hat ?_)
  have hh : X.A.in1.handled = none := I.ok.hd hc
  refine ⟨_, _, _, _, _, _, _, s.heap, fun i j => decide ((x :: xs).getD i 0 < (x :: xs).getD j 0), rfl, (Walks.dictKeys hh s.heap.objs.size a (Nat.ne_of_lt hlt) vs ep).toS, ⟨⟨_, Heap.get?_push_size _ rfl, rfl, rfl⟩, hat.push _⟩, fun b hb => ?_, by rw [hl]; exact hne, fun b o e hb => absurd (Heap.lt_size e) ((List.mem_singleton.mp hb) ▸ Nat.lt_irrefl _), fun b o e => Heap.get?_push_of_some _ e, fun i j vi vj s' Q E hk hi hj hq => ?_, fun v s' hP m => ?_⟩
  · show b < (s.heap.push _).objs.size
    rw [Heap.size_push]
    rcases List.mem_cons.mp hb with rfl | hb
    · exact Nat.lt_succ_self _
    · rcases List.mem_cons.mp hb with rfl | hb
      · exact Nat.lt_succ_of_lt hlt
      · cases hb
  · obtain ⟨y, t, e1, e2⟩ := hsh i vi hi
    obtain ⟨y2, t2, e3, e4⟩ := hsh j vj hj
    subst e2 e4
    dsimp only at hq
    rw [List.getD_eq_getElem?_getD, List.getD_eq_getElem?_getD, e1, e3] at hq
    exact HT.rcLt_int _ _ _ _ _ _ _ _ _ _ hq
  · obtain ⟨h', tk, rfl, hk'⟩ := PySem.W.moved_old rfl rfl m
    obtain ⟨y, t, e1, e2⟩ := hsh _ v hP
    subst e2
    have e3 : vs.length - 1 = xs.length := by rw [hl]; rfl
    rw [e3] at e1
    have e4 := (PySem.W.argBest_fold (fun a b : Int => decide (a < b)) 0 x xs xs.length (Nat.le_refl _)).2
    rw [List.take_length, List.getD_eq_getElem?_getD, e1] at e4
    have e5 : y = PySem.W.minOf x xs := e4
    obtain ⟨m1, m2⟩ := minOf_spec x xs
    rw [← e5] at m1 m2
    exact ⟨.int _, H, I.kept hk', ⟨_, rfl⟩, q _ m1 m2⟩
omit hK in
include hc hu in
/-- min of a list of tuples of ints -/
theorem cr_minT : CallR X (.builtin "min") (fun vs H Q => ∃ (a : Addr) (ps : List Addr) (ts : List (List Int)), vs = [V.ref a] ∧ SqL X.K H a (ps.map V.ref) ∧ ps.length = ts.length ∧ (∀ (i : Nat) p t, ps[i]? = some p → ts[i]? = some t → SqT X.K H p (t.map V.int)) ∧ 0 < ts.length ∧
    ∀ (i : Nat) p t, ps[i]? = some p → ts[i]? = some t → (∀ y, y ∈ ts → HT.lexLt y t = false) → Q (.ref p) H) := by
  intro pins s σ H vs us Q I r ⟨a, ps, ts, e, h, hl, ht, hne, q⟩
  subst e
  obtain ⟨its, rv, p, _⟩ := I.list h
  rw [Vals.ref1 r]
  have eits := vals_refs (us := its) rv
  subst eits
  have hold : ∀ (ps : List Addr) (ts : List (List Int)), ps.length = ts.length → (∀ (i : Nat) p t, ps[i]? = some p → ts[i]? = some t → SqT X.K H p (t.map V.int)) → PySem.W.HoldAll s.heap (ps.map Value.ref) (ts.map PySem.W.Tup.mk) := by
    intro ps
    induction ps with
    | nil =>
      intro ts e _
      cases ts with
      | nil => exact PySem.W.HoldAll.nil
      | cons _ _ => cases e
    | cons p ps ih =>
      intro ts e hh
      cases ts with
      | nil => cases e
      | cons t ts =>
        rw [List.map_cons, List.map_cons]
        refine PySem.W.HoldAll.cons ?_ (ih ts (by simpa using e) fun i p t h1 h2 => hh (i + 1) p t (by simpa using h1) (by simpa using h2))
        obtain ⟨it, r2, p2, _⟩ := I.tuple (hh 0 p t rfl rfl)
        exact PySem.W.holds_tup p2 (by simpa using hold_ints (h := s.heap) r2)
  have hA := hold ps ts hl ht
  cases ts with
  | nil => exact absurd hne (by decide)
  | cons t0 ts0 =>
    rw [List.map_cons] at hA
    obtain ⟨m1, m2⟩ := minOf_specT ⟨t0⟩ (ts0.map PySem.W.Tup.mk)
    refine PySem.W.min_list_datum (x := ⟨t0⟩) (xs := ts0.map PySem.W.Tup.mk) (I.ok.hd hc) (show s.heap.IsList a (ps.map Value.ref).toArray from p.isList) (by simpa using hA) (Nat.lt_of_le_of_lt (show X.A.units + 1 + 1 ≤ X.A.units + 64 by omega) hu) fun i v h' tk hi hh hk => ?_
    have hi' : (ps.map Value.ref)[i]? = some v := by simpa using hi
    rw [List.getElem?_map] at hi'
    cases hp : ps[i]? with
    | none => rw [hp] at hi'; cases hi'
    | some pi =>
      rw [hp] at hi'
      cases hi'
      obtain ⟨x, hx, hx2⟩ := (PySem.W.HoldAll.keeps hk hA).at (i := i) (v := .ref pi) (by rw [List.getElem?_map, hp]; rfl)
      have e := holds_eq hx2 hh
      rw [← List.map_cons (f := PySem.W.Tup.mk), List.getElem?_map] at hx
      cases ht2 : (t0 :: ts0)[i]? with
      | none => rw [ht2] at hx; cases hx
      | some ti =>
        rw [ht2] at hx
        cases hx
        refine ⟨.ref pi, H, I.kept hk, rfl, q i pi ti hp ht2 fun y hy => ?_⟩
        have z := m2 ⟨y⟩ (by rw [← List.map_cons (f := PySem.W.Tup.mk)]; exact List.mem_map.mpr ⟨y, hy, rfl⟩)
        rw [← e] at z
        exact z
omit hK in
include hc hu in
/-- min of two tuples of ints -/
theorem cr_min2T : CallR X (.builtin "min") (fun vs H Q => ∃ (p q : Addr) (t u : List Int), vs = [V.ref p, V.ref q] ∧ SqT X.K H p (t.map V.int) ∧ SqT X.K H q (u.map V.int) ∧ Q (.ref (if HT.lexLt u t = true then q else p)) H) := by
  intro pins s σ H vs us Q I r ⟨p, q, t, u, e, h1, h2, g⟩
  subst e
  obtain ⟨a, b, rfl, ra, rb⟩ := vals2 r
  obtain rfl : a = Value.ref p := ra
  obtain rfl : b = Value.ref q := rb
  obtain ⟨it1, rv1, p1, _⟩ := I.tuple h1
  obtain ⟨it2, rv2, p2, _⟩ := I.tuple h2
  have hA : PySem.W.HoldAll s.heap [Value.ref p, Value.ref q] [PySem.W.Tup.mk t, PySem.W.Tup.mk u] := PySem.W.HoldAll.cons (PySem.W.holds_tup p1 (by simpa using hold_ints (h := s.heap) rv1)) (PySem.W.HoldAll.cons (PySem.W.holds_tup p2 (by simpa using hold_ints (h := s.heap) rv2)) PySem.W.HoldAll.nil)
  have hh := I.ok.hd hc
  -- the two as one tuple, walked
  let s1 : Shared := { s with heap := s.heap.push { cls := .type "tuple", data := .seq #[.ref p, .ref q] } }
  have k1 : ∀ b o, s.heap.get? b = some o → s1.heap.get? b = some o := fun b o e => Heap.get?_push_of_some _ e
  obtain ⟨as, rs⟩ := PySem.W.HoldAll.keeps k1 hA
  have al : PySem.W.AlikeAll ([PySem.W.Tup.mk t, PySem.W.Tup.mk u].map PySem.W.Datum.toD) := PySem.W.alikeAll_datum _
  have dp : X.A.units + 1 + PyData.depthAll ([PySem.W.Tup.mk t, PySem.W.Tup.mk u].map PySem.W.Datum.toD) < cLine := PySem.W.room_all (PySem.W.depthAll_map _) (Nat.lt_of_le_of_lt (show X.A.units + 1 + 1 ≤ X.A.units + 64 by omega) hu)
  have isT : s1.heap.IsTuple s.heap.objs.size #[.ref p, .ref q] := ⟨_, Heap.get?_push_size _ rfl, rfl, 0, rfl⟩
  refine call_function_tree F.kind_min F.plain_min F.entry_min (F.args_min2 _ _) (wpAny_bind (wpAny_of_eq (a := [none, none]) rfl ?_))
  refine wpAny_bind (wpAny_newObj_type (wpAny_bind (PySem.W.iter_tupleW (s := s1) (A := X.A.in1) hh isT fun s₂ e2 W st hfp hw hk => wpAny_bind (wpAny_newObj_type ?_))))
  have sf : s₂.heap.objs.size ∉ [s1.heap.objs.size, s.heap.objs.size] := fun hm => Nat.lt_irrefl _ (hfp _ hm)
  have nm : (toString "min" ++ toString ".loop" : String) = "min.loop" := by decide +kernel
  rw [nm]
  refine wpAny_pure ⟨plainId_quiet F.plain_min_loop _, codeAny_min_loop_firstH W s1.heap hw _ (PySem.W.cmpIn_lt (A := X.A.in1) rs al (by show X.A.units + 1 + _ < _; exact dp)) s₂.heap.objs.size sf (fresh_in hk) _ (Nat.zero_lt_succ 1) (fun b o e => Heap.get?_push_of_some _ (hk b o e)) (W.frame 0 s₂ _ s₂.toks st (Nat.le_refl _) fun b _ o e => Heap.get?_push_of_some _ e) (Heap.get?_push_size _ rfl) fun v s' hP hm => ?_⟩
  obtain ⟨h', tk, rfl, hk'⟩ := PySem.W.moved_old e2 rfl (Moved.drop_new (tk := s₂.toks) hm (Nat.le_refl _))
  have lt : PySem.W.DatumOrd.lt (PySem.W.Tup.mk u) (PySem.W.Tup.mk t) = HT.lexLt u t := lex_list _ _
  have lt2 : PySem.W.dataLt (PySem.W.Datum.toD (PySem.W.Tup.mk u)) (PySem.W.Datum.toD (PySem.W.Tup.mk t)) = HT.lexLt u t := (PySem.W.DatumOrd.lt_eq _ _).trans lt
  have hv : v = .ref (if HT.lexLt u t = true then q else p) := by
    have hP : (#[Value.ref p, Value.ref q])[PySem.argBest (fun i j => PySem.W.dataLt (([PySem.W.Tup.mk t, PySem.W.Tup.mk u].map PySem.W.Datum.toD).getD i .none) (([PySem.W.Tup.mk t, PySem.W.Tup.mk u].map PySem.W.Datum.toD).getD j .none)) 1]? = some v := hP
    have e3 : PySem.argBest (fun i j => PySem.W.dataLt (([PySem.W.Tup.mk t, PySem.W.Tup.mk u].map PySem.W.Datum.toD).getD i .none) (([PySem.W.Tup.mk t, PySem.W.Tup.mk u].map PySem.W.Datum.toD).getD j .none)) 1 = if HT.lexLt u t = true then 1 else 0 := by
      show (if PySem.W.dataLt (PySem.W.Datum.toD (PySem.W.Tup.mk u)) (PySem.W.Datum.toD (PySem.W.Tup.mk t)) then 0 + 1 else 0) = _
      rw [lt2]
    rw [e3] at hP
    cases c : HT.lexLt u t with
    | true => rw [c, if_pos rfl] at hP; cases hP; rfl
    | false => rw [c, if_neg Bool.false_ne_true] at hP; cases hP; rfl
  exact ⟨.ref _, H, I.kept fun b o e => hk' b o (k1 b o e), hv, g⟩
/-! ### sorted(a list of tuples of ints) -/
def noTx : Nat → Bool := fun _ => false
theorem items_tup : ∀ {ns : List Int} {us : List Value} (i : Nat), Vals (ns.map V.int) us → tupItems noTx i us = some (ns.map Sum.inl)
  | [], us, i, r => by cases r; rfl
  | n :: ns, us, i, r => by
    rw [List.map_cons] at r
    cases r with
    | cons r1 r2 =>
      obtain ⟨t, rfl⟩ := r1
      have ih := items_tup (i + 1) r2
      show (if noTx i = true then none else (tupItems noTx (i + 1) _).map (Sum.inl n :: ·)) = _
      rw [if_neg (by show ¬ false = true; decide), ih]
      rfl
theorem lex_items : ∀ a b : List Int, PyProof.Rows.lexLt itemOrd (a.map Sum.inl) (b.map Sum.inl) = HT.lexLt a b
  | [], [] => rfl
  | [], _ :: _ => rfl
  | _ :: _, [] => rfl
  | x :: xs, y :: ys => by
    have ih := lex_items xs ys
    show (decide (x < y) || (!decide (y < x) && PyProof.Rows.lexLt itemOrd (xs.map Sum.inl) (ys.map Sum.inl))) = (if x = y then HT.lexLt xs ys else decide (x < y))
    rw [ih]
    by_cases e : x = y
    · subst e
      rw [if_pos rfl, decide_eq_false (Int.lt_irrefl x)]
      rfl
    · rw [if_neg e]
      by_cases l : x < y
      · rw [decide_eq_true l]; rfl
      · rw [decide_eq_false l, decide_eq_true (show y < x by omega)]; rfl
theorem keyC_of {h : Heap} {sh : Nat → Bool} {a : Addr} {o : Obj} {xs : Array Value} {n : Nat} {l : List (Int ⊕ List Nat)} (ho : h.get? a = some o) (hc : o.cls = .type "tuple") (hd : o.data = .seq xs n) (hi : tupItems sh 0 xs.toList = some l) : G.tupKeyC h sh (.ref a) = some l := by
  unfold G.tupKeyC
  rw [if_pos (by simp [G.isTupObj, ho, hc])]
  simp only [tupKey, ho, hd]
  exact hi
theorem tups_ex {h : Heap} {sh : Nat → Bool} : ∀ {vs : List Value}, (∀ v ∈ vs, ∃ f, TupOf h sh v f) → ∃ fs, TupsOf h sh vs fs
  | [], _ => ⟨[], .nil⟩
  | v :: vs, H => by
    obtain ⟨f, hf⟩ := H v List.mem_cons_self
    obtain ⟨fs, hfs⟩ := tups_ex (vs := vs) fun u hu => H u (List.mem_cons_of_mem _ hu)
    exact ⟨f :: fs, .cons hf hfs⟩
def adV : Value → Addr
  | .ref a => a
  | _ => 0
def inlL (l : List (Int ⊕ List Nat)) : List Int := l.filterMap fun x => match x with | .inl i => some i | .inr _ => none
theorem inlL_map : ∀ t : List Int, inlL (t.map Sum.inl) = t
  | [] => rfl
  | x :: t => by
    have ih := inlL_map t
    unfold inlL at ih ⊢
    rw [List.map_cons, List.filterMap_cons, ih]
theorem zip_ext {α β : Type} (f : α → β) : ∀ {xs : List α} {ys : List β}, xs.length = ys.length → (∀ (i : Nat) x y, xs[i]? = some x → ys[i]? = some y → f x = y) → xs.map (fun x => (x, f x)) = xs.zip ys
  | [], [], _, _ => rfl
  | x :: xs, y :: ys, hl, h => by
    rw [List.map_cons, List.zip_cons_cons, zip_ext f (by simpa using hl) fun i x y h1 h2 => h (i + 1) x y (by simpa using h1) (by simpa using h2), h 0 x y rfl rfl]
theorem cr_sortedT : CallR X (.builtin "sorted") (fun vs H Q => ∃ (a : Addr) (ps : List Addr) (ts : List (List Int)), vs = [V.ref a] ∧ SqL X.K H a (ps.map V.ref) ∧ ps.length = ts.length ∧ (∀ (i : Nat) p t, ps[i]? = some p → ts[i]? = some t → SqT X.K H p (t.map V.int)) ∧ (∀ t ∈ ts, t ≠ []) ∧
    ∀ (zs : List (Addr × List Int)) q, zs.Perm (ps.zip ts) → (zs.map (·.2)).Pairwise (fun x y => HT.lexLt y x = false) → H q = none → Q (.ref q) (upd H q (.lst (zs.map fun z => V.ref z.1)))) := by
  intro pins s σ H vs us Q I r ⟨a, ps, ts, e, h, hl, ht, hne, q⟩
  subst e
  obtain ⟨its, rv, p, hz⟩ := I.list h
  rw [Vals.ref1 r]
  have eits := vals_refs (us := its) rv
  subst eits
  have each : ∀ (i : Nat) p t, ps[i]? = some p → ts[i]? = some t → (∃ f, TupOf s.heap noTx (.ref p) f) ∧ G.tupKeyC s.heap noTx (.ref p) = some (t.map Sum.inl) := by
    intro i p t h1 h2
    obtain ⟨it, r2, p2, _⟩ := I.tuple (ht i p t h1 h2)
    obtain ⟨o, ho, hc, n, hd⟩ := p2
    have hk : G.tupKeyC s.heap noTx (.ref p) = some (t.map Sum.inl) := keyC_of ho hc hd (by simpa using items_tup 0 r2)
    refine ⟨?_, hk⟩
    have hn := hne t (List.mem_of_getElem? h2)
    cases t with
    | nil => exact absurd rfl hn
    | cons x t =>
      rw [List.map_cons] at r2
      cases r2 with
      | cons r1 r2 =>
        obtain ⟨tk, rfl⟩ := r1
        exact ⟨.int x tk, p, o, _, n, rfl, ho, hc, hd, by simp, fun _ => ⟨_, _, rfl⟩, fun e => absurd e Bool.false_ne_true⟩
  have idx : ∀ p ∈ ps, ∃ (i : Nat) (t : List Int), ps[i]? = some p ∧ ts[i]? = some t := fun p hp => by
    obtain ⟨i, hi⟩ := List.mem_iff_getElem?.mp hp
    have li := (List.getElem?_eq_some_iff.mp hi).1
    exact ⟨i, ts[i]'(by omega), hi, List.getElem?_eq_getElem (by omega)⟩
  obtain ⟨fs, hfs⟩ := tups_ex (h := s.heap) (sh := noTx) (vs := ps.map Value.ref) fun v hv => by
    obtain ⟨p, hp, rfl⟩ := List.mem_map.mp hv
    obtain ⟨i, t, h1, h2⟩ := idx p hp
    exact (each i p t h1 h2).1
  have keyed : ∀ v ∈ ps.map Value.ref, ∃ l : List Int, G.tupKeyC s.heap noTx v = some (l.map Sum.inl) := fun v hv => by
    obtain ⟨p, hp, rfl⟩ := List.mem_map.mp hv
    obtain ⟨i, t, h1, h2⟩ := idx p hp
    exact ⟨t, (each i p t h1 h2).2⟩
  refine G.sorted_tups (vs := ps.map Value.ref) (show s.heap.IsList a (ps.map Value.ref).toArray from p.isList) hfs (fun v hv => (keyed v hv).imp' _ fun _ e => e) (by rw [List.length_map]; simpa using hz) fun st' hp hs _ => ?_
  have hp' : (arrOf st').toList.Perm ((ps.map Value.ref).zip (ps.map Value.ref)) := by
    have e := Array.perm_iff_toList_perm.mp hp
    rw [PyProof.Rows.pairsOf_toList] at e
    exact e
  have mem : ∀ kd ∈ (arrOf st').toList, ∃ p ∈ ps, kd = (Value.ref p, Value.ref p) := fun kd hk => by
    have z := hp'.mem_iff.mp hk
    rw [List.zip_map', List.mem_map] at z
    obtain ⟨p, hp, e⟩ := z
    exact ⟨p, hp, e.symm⟩
  let kf : Value → List Int := fun v => inlL ((G.tupKeyC s.heap noTx v).getD [])
  have kfe : ∀ v ∈ ps.map Value.ref, G.tupKeyC s.heap noTx v = some ((kf v).map Sum.inl) := fun v hv => by
    obtain ⟨l, e⟩ := keyed v hv
    show _ = some ((inlL ((G.tupKeyC s.heap noTx v).getD [])).map Sum.inl)
    rw [e]
    show _ = some ((inlL (l.map Sum.inl)).map Sum.inl)
    rw [inlL_map]
  let zs : List (Addr × List Int) := (arrOf st').toList.map fun kd => (adV kd.2, kf kd.2)
  have zperm : zs.Perm (ps.zip ts) := by
    have e1 := hp'.map (fun kd : Value × Value => (adV kd.2, kf kd.2))
    rw [List.zip_map', List.map_map] at e1
    have e2 : ps.map (((fun kd : Value × Value => (adV kd.2, kf kd.2)) ∘ fun x => (Value.ref x, Value.ref x))) = ps.zip ts := by
      refine zip_ext (fun p => kf (.ref p)) hl fun i p t h1 h2 => ?_
      show inlL ((G.tupKeyC s.heap noTx (.ref p)).getD []) = t
      rw [(each i p t h1 h2).2]
      exact inlL_map t
    rw [e2] at e1
    exact e1
  have zpw : (zs.map (·.2)).Pairwise (fun x y => HT.lexLt y x = false) := by
    rw [List.map_map, List.pairwise_iff_getElem]
    intro i j hi hj hij
    rw [List.length_map, Array.length_toList] at hi hj
    have sz : (arrOf st').size = (PyProof.Rows.pairsOf (ps.map Value.ref)).size := hp.size_eq
    have z := hs i j (Nat.le_of_lt hij) (by rw [← sz]; exact hj)
    have key : ∀ (i : Nat) (hi : i < (arrOf st').size), KK (G.tupKindC s.heap noTx) (arrOf st') i = (kf ((arrOf st').toList[i]'(by simpa using hi)).2).map Sum.inl := fun i hi => by
      unfold KK
      rw [Array.getElem?_eq_getElem hi]
      obtain ⟨p, hp, e⟩ := mem ((arrOf st').toList[i]'(by simpa using hi)) (List.getElem_mem _)
      have e0 : (arrOf st')[i] = (Value.ref p, Value.ref p) := by rw [← e, Array.getElem_toList]
      have ek := kfe (.ref p) (List.mem_map_of_mem hp)
      rw [e]
      dsimp only
      rw [e0]
      show (G.tupKeyC s.heap noTx (.ref p)).getD [] = _
      rw [ek]
      rfl
    unfold KeyOrd.kle at z
    rw [key i hi, key j hj] at z
    have z2 : PyProof.Rows.lexLt itemOrd _ _ = false := z
    rw [lex_items] at z2
    rw [List.getElem_map, List.getElem_map]
    exact z2
  have outE : ((arrOf st').map (·.2)).toList = zs.map fun z => Value.ref z.1 := by
    rw [Array.toList_map, List.map_map]
    refine List.map_congr_left fun kd hk => ?_
    obtain ⟨p, hp, e⟩ := mem kd hk
    rw [e]
    rfl
  have vz : ∀ l : List (Addr × List Int), Vals (l.map fun z => V.ref z.1) (l.map fun z => Value.ref z.1) := fun l => by
    induction l with
    | nil => exact .nil
    | cons z l ih => exact .cons rfl ih
  obtain ⟨ep, he'⟩ := sortedAll_at s.heap (ps.map Value.ref) ((arrOf st').map (·.2))
  refine ⟨.ref _, upd H (s.heap.objs.size + 1) (.lst (zs.map fun z => V.ref z.1)), I.laid (t' := s.toks) (fun _ _ => sortedAll_old) (Nat.le_succ _) ⟨?_, ((arrOf st').map (·.2)).toList, ep, by rw [outE]; exact vz zs, by rw [Array.toArray_toList]; exact he'⟩, rfl, q zs _ zperm zpw (I.hok.fresh (Nat.le_succ _))⟩
  rw [List.length_map, zperm.length_eq, List.length_zip, ← hl, Nat.min_self]
  simpa using hz
theorem rvKey {K : PySem.W.Frag} {H : Hp} : ∀ k : Key, RV K H (kV k) (kD k)
  | .inl i => .int i
  | .inr s => .str s
theorem RKs.keysV {C : Cn} {H : Hp} : ∀ {l : List (Key × V)} {m : List (D × D)}, RKs C H l m → RVs C.K H (l.map fun kv => kV kv.1) (m.map (·.1))
  | _, _, .nil => .nil
  | _, _, .cons h r => .cons (rvKey _) r.keysV
theorem RKs.keysI {C : Cn} {H : Hp} : ∀ {l : List (Key × V)} {m : List (D × D)} {ks : List Int}, RKs C H l m → intsOf (m.map (·.1)) = some ks → l.map (·.1) = ks.map Sum.inl
  | _, _, ks, .nil, h => by cases h; rfl
  | _, _, ks, @RKs.cons _ _ k v d r r' h t, e => by
    cases k with
    | inl i =>
      have e : (intsOf (r'.map (·.1))).map (i :: ·) = some ks := e
      cases q : intsOf (r'.map (·.1)) with
      | none => rw [q] at e; cases e
      | some n =>
        rw [q] at e
        cases e
        rw [List.map_cons, t.keysI q]
        rfl
    | inr s => cases e
end
theorem RKs.rep {C : Cn} {H : Hp} {k : Key} {v : V} {d : D} (q : RV C.K H v d) : ∀ {l : List (Key × V)} {m : List (D × D)}, RKs C H l m → RKs C H (l.map fun kv => if kv.1 = k then (kv.1, v) else kv) (repK (kD k) d m)
  | _, _, .nil => .nil
  | _, _, .cons (k := k') h r => by
    show RKs C H ((if k' = k then (k', v) else (k', _)) :: _) ((if eqK (kD k') (kD k) = true then (kD k', d) else (kD k', _)) :: _)
    rw [kD_eq]
    by_cases e : k' = k
    · rw [if_pos e, if_pos (decide_eq_true e)]
      exact .cons q (RKs.rep q r)
    · rw [if_neg e, if_neg (by simpa using e)]
      exact .cons h (RKs.rep q r)
theorem RKs.has {C : Cn} {H : Hp} {k : Key} : ∀ {l : List (Key × V)} {m : List (D × D)}, RKs C H l m → (l.any fun kv => decide (kv.1 = k)) = hasK (kD k) m
  | _, _, .nil => rfl
  | _, _, .cons h r => by
    have ih := RKs.has (k := k) r
    unfold hasK at ih ⊢
    rw [List.any_cons, List.any_cons, ih]
    simp only [kD_eq]
theorem RKs.append {C : Cn} {H : Hp} : ∀ {l l' : List (Key × V)} {m m' : List (D × D)}, RKs C H l m → RKs C H l' m' → RKs C H (l ++ l') (m ++ m')
  | _, _, _, _, .nil, q => q
  | _, _, _, _, .cons h r, q => .cons h (r.append q)
theorem RKs.put {C : Cn} {H : Hp} {k : Key} {v : V} {d : D} (q : RV C.K H v d) {l : List (Key × V)} {m : List (D × D)} (r : RKs C H l m) : RKs C H (L2.putK l k v) (SW.putK (kD k) d m) := by
  unfold L2.putK SW.putK
  rw [r.has]
  split
  · exact r.rep q
  · exact r.append (.cons q .nil)
theorem RVs.ofStrs {K : PySem.W.Frag} {H : Hp} : ∀ {ns : List Str}, RVs K H (ns.map V.str) (ns.map D.str)
  | [] => .nil
  | _ :: _ => .cons (.str _) RVs.ofStrs
theorem RKs.merge {C : Cn} {H : Hp} : ∀ {m : List (Key × V)} {m' : List (D × D)} {l : List (Key × V)} {l' : List (D × D)}, RKs C H m m' → RKs C H l l' → RKs C H (mergeK l m) (mergeD l' m')
  | _, _, _, _, .nil, r => r
  | _, _, _, _, .cons q t, r => RKs.merge (l := L2.putK _ _ _) (l' := SW.putK _ _ _) t (RKs.put q r)
/-- sorted(a tuple of texts) -/
theorem cr_sortedTS {X : Cx} : CallR X (.builtin "sorted") (fun vs H Q => ∃ (a : Addr) (ss : List Str), vs = [V.ref a] ∧ SqT X.K H a (ss.map V.str) ∧ ss.length < 64 ∧
    ∀ (ys : List Str) (p : Addr), ys.Perm ss → sortedS ys = true → H p = none → Q (.ref p) (upd H p (.lst (ys.map V.str)))) := by
  intro pins s σ H vs us Q I r h
  obtain ⟨a, ss, rfl, hs, h64, q⟩ := h
  obtain ⟨its, rv, hl, _⟩ := I.tuple hs
  rw [Vals.ref1 r]
  have hlen0 := rv.length
  rw [List.length_map] at hlen0
  obtain ⟨o, ho, hcl, n, hd⟩ := hl
  have hS := rv.strs
  refine Calls.call_function_entry kind_sorted plain_sorted entry_sorted (args_sorted1 _) ?_
  unfold Builtin.«sorted»
  refine wpAny_bind (m := checkCount "sorted" 1 1 _) (wpAny_pure ?_)
  have hz : its.toArray.size ≤ sizeLine := by rw [List.size_toArray, ← hlen0]; exact small64 h64
  refine wpAny_bind (wpAny_collect_seq (hsz := hz) a (.inr rfl) ho hcl hd fun h' kept => ?_)
  refine wpAny_bind (wpAny_newList ?_)
  have hoL : (h'.push (seqObj "list" its.toArray 0)).get? h'.objs.size = some (seqObj "list" its.toArray 0) := Heap.get?_push_size _ rfl
  have hL : its.length ≤ sizeLine := by rw [← hlen0]; exact small64 h64
  refine wpAny_bind (wpAny_holding (wpAny_call_entry slot_list_sort ⟨_, hoL, rfl⟩ entry_list_sort (list_sort_treeKAny strKind_oneLt hoL hS.keysOf (fun v₁ v₂ rest e => keyKind_strs (by rw [← e]; exact hS)) hL fun st' a1 a2 => ⟨_, rfl, ?_⟩) (args_list_sort _)))
  refine wpAny_pure ⟨_, rfl, ?_⟩
  obtain ⟨ys, h1, h2, h3⟩ := sorted_out_str hS a1 a2
  obtain ⟨ep, he'⟩ := sortedHeap_at (vs := its) (out := (arrOf st').map (·.2)) hoL
  have I2 : Inv X pins σ H { s with heap := h', toks := s.toks } := I.kept (t' := s.toks) kept
  have old : ∀ b o', h'.get? b = some o' → (sortedHeap (h'.push (seqObj "list" its.toArray 0)) h'.objs.size its ((arrOf st').map (·.2))).get? b = some o' := fun b o' k1 => by
    have k2 : (h'.push (seqObj "list" its.toArray 0)).get? b = some o' := Heap.get?_push_of_some _ k1
    rw [sortedHeap_old (Nat.ne_of_lt (Heap.lt_size k1)) (Heap.lt_size k2)]
    exact k2
  have hlen : (ys.map V.str).length ≤ sizeLine := by rw [List.length_map, h2.length_eq]; exact small64 h64
  exact ⟨.ref _, upd H h'.objs.size (.lst (ys.map V.str)), I2.laid (t' := s.toks) (fun b o' hb => old b o' hb) (Nat.le_refl _) ⟨hlen, ((arrOf st').map (·.2)).toList, ep, vals_of_strs h1, by rw [Array.toArray_toList]; exact he'⟩, rfl, q ys _ h2 h3 (I2.hok.fresh (Nat.le_refl _))⟩
theorem kvs_rk {C : Cn} {H : Hp} : ∀ {ds : List D} {vs : List V} {kvs : List (D × D)}, RVs C.K H vs ds → kvsOf ds = some kvs → ∃ (ps : List Addr) (l : List (Key × V)), vs = ps.map V.ref ∧ Paired (fun p (kv : Key × V) => SqT C.K H p [kV kv.1, kv.2]) ps l ∧ RKs C H l kvs
  | [], _, kvs, r, h => by
    cases r
    cases h
    exact ⟨[], [], rfl, .nil, .nil⟩
  | d :: ds, _, kvs, .cons r1 r, h => by
    unfold kvsOf at h
    split at h
    · rename_i heq
      cases heq
    · rename_i k v r0 heq
      cases heq
      split at h
      · rename_i hk
        cases e : kvsOf ds with
        | none => rw [e] at h; cases h
        | some m =>
          rw [e] at h
          cases h
          obtain ⟨ps, l, e1, e2, e3⟩ := kvs_rk r e
          cases r1 with
          | @tup p vs _ t q =>
          cases q with
          | cons q1 q2 =>
          cases q2 with
          | cons q2 q3 =>
          cases q3
          obtain ⟨ky, rfl⟩ := key_of hk
          refine ⟨p :: ps, (ky, _) :: l, by rw [e1]; rfl, .cons ?_ e2, .cons q2 e3⟩
          cases ky with
          | inl i => cases q1; exact t
          | inr s => cases q1; exact t
      · cases h
    · cases h
section
variable {X : Cx} {C : Cn} (hK : X.K = C.K) (hc : X.calm = true) (hu : X.A.units + 64 < cLine)
include hK hc hu
theorem blt_rule (b : Blt) : CallR X (bltVal b) (RLD C (wpBlt b)) := by
  intro pins s σ H vs us Q I r h
  obtain ⟨ds, S, rs, ok, h⟩ := h
  unfold wpBlt at h
  split at h
  · cases rs with
    | cons r1 rs =>
      cases rs
      split at h
      · cases r1
        exact call_len pins s σ H _ us Q I r ⟨_, _, rfl, ⟨h.1, rfl⟩, h.2.at ok (.int _)⟩
      · cases r1
        rcases h with ⟨xs, e, h⟩ | ⟨kvs, e, h⟩
        · obtain ⟨vs, e1, q⟩ := ok.lst e
          refine call_len pins s σ H _ us Q I r ⟨_, vs.length, rfl, .inl ⟨vs, .of e1, rfl⟩, ?_⟩
          rw [q.length]
          exact h.at ok (.int _)
        · obtain ⟨kvs', rd, rk⟩ := ok.rdic e
          rw [Vals.ref1 r]
          refine d_len I rd fun t s' I' => ⟨.int _, H, I', ⟨t, rfl⟩, ?_⟩
          rw [rk.length]
          exact h.at ok (.int _)
      · obtain ⟨xs, e, h⟩ := h
        obtain ⟨p, vs, rfl, q, z⟩ := sq_of ok r1 e
        refine call_len pins s σ H _ us Q I r ⟨_, vs.length, rfl, ?_, ?_⟩
        · rcases z with z | z
          · exact .inl ⟨vs, hK ▸ z, rfl⟩
          · exact .inr ⟨vs, hK ▸ z.1, rfl⟩
        · rw [q.length]
          exact h.at ok (.int _)
  · cases rs with
    | cons r1 rs =>
      cases rs
      split at h
      · cases r1
        exact call_int1 pins s σ H _ us Q I r (.inl ⟨_, rfl, h.at ok (.int _)⟩)
      · cases r1
        exact call_int1 pins s σ H _ us Q I r (.inr ⟨_, rfl, h.at ok (.int _)⟩)
      · cases r1
        obtain ⟨n, e1, e2, h⟩ := h
        exact call_int_str pins s σ H _ us Q I r ⟨_, n, rfl, e1, e2, h.at ok (.int _)⟩
      · exact h.elim
  · cases rs with
    | cons r1 rs =>
      cases rs with
      | cons r2 rs =>
        cases rs; cases r1; cases r2
        exact call_max2 hc pins s σ H _ us Q I r ⟨_, _, rfl, h.at ok (.int _)⟩
  · cases rs with
    | cons r1 rs =>
      cases rs with
      | cons r2 rs =>
        cases rs; cases r1; cases r2
        exact call_min2 hc pins s σ H _ us Q I r ⟨_, _, rfl, h.at ok (.int _)⟩
  · obtain ⟨ns, ms, e1, e2, h⟩ := h
    cases rs with
    | cons r1 rs =>
      cases rs with
      | cons r2 rs =>
        cases rs
        cases r1 with
        | tup t1 q1 =>
          cases r2 with
          | tup t2 q2 =>
            cases q1.ints e1
            cases q2.ints e2
            refine cr_min2T hc hu pins s σ H _ us Q I r ⟨_, _, ns, ms, rfl, hK ▸ t1, hK ▸ t2, ?_⟩
            cases c : HT.lexLt ms ns with
            | true => rw [c, if_pos rfl] at h; rw [if_pos rfl]; exact h.at ok (.tup t2 q2)
            | false => rw [c, if_neg Bool.false_ne_true] at h; rw [if_neg Bool.false_ne_true]; exact h.at ok (.tup t1 q1)
  · obtain ⟨xs, ns, e, e2, hne, h⟩ := h
    cases rs with
    | cons r1 rs =>
      cases rs
      obtain ⟨p, vs, rfl, q, z⟩ := sq_of ok r1 e
      cases q.ints e2
      refine cr_maxA hc hu pins s σ H _ us Q I r ⟨_, ns, rfl, ?_, hne, fun m h1 h2 => (h m h1 h2).at ok (.int _)⟩
      rcases z with z | z
      · exact .inl (hK ▸ z)
      · exact .inr (hK ▸ z.1)
  · cases rs with
    | cons r1 rs =>
      cases rs
      cases r1
      rcases h with ⟨xs, ns, e, e2, hne, h⟩ | ⟨xs, ts, e, e2, hne, h⟩ | ⟨kvs, ks, e, e2, hne, h⟩
      rotate_left 2
      · obtain ⟨kvs', rd, rk⟩ := ok.rdic e
        exact cr_minD hc hu pins s σ H _ us Q I r ⟨_, kvs', ks, rfl, rd, rk.keysI e2, hne, fun m h1 h2 => (h m h1 h2).at ok (.int _)⟩
      · obtain ⟨vs, e1, q⟩ := ok.lst e
        cases q.ints e2
        exact cr_minA hc hu pins s σ H _ us Q I r ⟨_, ns, rfl, .inl (.of e1), hne, fun m h1 h2 => (h m h1 h2).at ok (.int _)⟩
      · obtain ⟨vs, e1, q⟩ := ok.lst e
        obtain ⟨ps, e3, e4, e5, e6⟩ := tups_get e2 q
        subst e3
        refine cr_minT hc hu pins s σ H _ us Q I r ⟨_, ps, ts, rfl, .of e1, e4, fun i p t h1 h2 => hK ▸ e5 i p t h1 h2, hne, fun i p t h1 h2 h3 => (h t (List.mem_of_getElem? h2) h3).at ok (.tup (e5 i p t h1 h2) RVs.ofInts)⟩
  · obtain ⟨xs, ns, e, e2, hne, h⟩ := h
    cases rs with
    | cons r1 rs =>
      cases rs
      obtain ⟨p, vs, rfl, q, z⟩ := sq_of ok r1 e
      cases q.ints e2
      refine cr_minA hc hu pins s σ H _ us Q I r ⟨_, ns, rfl, ?_, hne, fun m h1 h2 => (h m h1 h2).at ok (.int _)⟩
      rcases z with z | z
      · exact .inl (hK ▸ z)
      · exact .inr (hK ▸ z.1)
  · cases rs with
    | cons r1 rs =>
      cases rs; cases r1
      exact call_abs pins s σ H _ us Q I r ⟨_, rfl, h.at ok (.int _)⟩
  · cases rs with
    | cons r1 rs =>
      cases rs; cases r1
      exact call_str_int pins s σ H _ us Q I r ⟨_, rfl, h.1, h.2.at ok (.str _)⟩
  · cases rs with
    | cons r1 rs =>
      cases rs
      cases r1
      rcases h with ⟨xs, e, h⟩ | ⟨kvs, e, h⟩
      · obtain ⟨vs, e1, q⟩ := ok.lst e
        exact call_list_of pins s σ H _ us Q I r ⟨_, vs, rfl, .inl (.of e1), fun l hl => QV.new h ok q hl⟩
      · obtain ⟨kvs', e1, rk⟩ := ok.dic e
        exact call_list_dK hc pins s σ H _ us Q I r ⟨_, kvs', rfl, e1, fun l hl => QV.new h ok rk.keysV hl⟩
  · obtain ⟨xs, e, h⟩ := h
    cases rs with
    | cons r1 rs =>
      cases rs
      obtain ⟨p, vs, rfl, q, z⟩ := sq_of ok r1 e
      refine call_list_of pins s σ H _ us Q I r ⟨_, vs, rfl, ?_, fun l hl => QV.new h ok q hl⟩
      rcases z with z | z
      · exact .inl (hK ▸ z)
      · exact .inr (hK ▸ z.1)
  · obtain ⟨xs, e, h⟩ := h
    cases rs with
    | cons r1 rs =>
      cases rs
      obtain ⟨p, vs, rfl, q, z⟩ := sq_of ok r1 e
      refine call_tuple_of pins s σ H _ us Q I r ⟨_, vs, rfl, ?_⟩
      rcases z with z | z
      · exact .inl ⟨hK ▸ z, fun l hl => h.tup ok q hl⟩
      · obtain ⟨z, rfl⟩ := z
        exact .inr ⟨hK ▸ z, h.at ok r1⟩
  · cases rs with
    | cons r1 rs =>
      cases rs; cases r1
      rcases h with ⟨xs, ns, e, e2, h⟩ | ⟨kvs, ks, e, e2, hl, h⟩ | ⟨xs, ts, e, e2, hne, h⟩
      · obtain ⟨vs, e1, q⟩ := ok.lst e
        cases q.ints e2
        exact cr_sortedI pins s σ H _ us Q I r ⟨_, ns, rfl, .of e1, fun ns' p h1 h2 hp => QV.new (fun p hp => h ns' p h1 h2 hp) ok RVs.ofInts hp⟩
      · obtain ⟨kvs', rd, rk⟩ := ok.rdic e
        exact call_sortedDI hc pins s σ H _ us Q I r ⟨_, kvs', ks, rfl, rd, rk.keysI e2, hl, fun ys p h1 h2 hp => QV.new (fun p hp => h ys p h1 h2 hp) ok RVs.ofInts hp⟩
      · obtain ⟨vs, e1, q⟩ := ok.lst e
        obtain ⟨ps, evs, hl, htt, exs⟩ := tups_get e2 q
        rw [evs] at e1
        refine cr_sortedT pins s σ H _ us Q I r ⟨_, ps, ts, rfl, .of e1, hl, fun i p t h1 h2 => hK ▸ htt i p t h1 h2, hne, fun zs p h1 h2 hp => ?_⟩
        have pm : (zs.map (·.2)).Perm ts := by
          have z := h1.map (·.2)
          rw [List.map_snd_zip (by omega)] at z
          exact z
        have rz : ∀ l : List (Addr × List Int), (∀ z ∈ l, z ∈ ps.zip ts) → RVs C.K H (l.map fun z => V.ref z.1) ((l.map (·.2)).map fun t => D.tup (t.map .int)) := by
          intro l
          induction l with
          | nil => intro _; exact .nil
          | cons z l ih =>
            intro hz
            obtain ⟨i, hi⟩ := List.mem_iff_getElem?.mp (hz z List.mem_cons_self)
            rw [List.getElem?_zip_eq_some] at hi
            exact .cons (.tup (htt i z.1 z.2 hi.1 hi.2) RVs.ofInts) (ih fun y hy => hz y (List.mem_cons_of_mem _ hy))
        exact QV.new (fun p hp => h (zs.map (·.2)) p pm h2 hp) ok (rz zs fun z hz => h1.mem_iff.mp hz) hp
  · obtain ⟨ss, e2, h64, h⟩ := h
    cases rs with
    | cons r1 rs =>
      cases rs
      cases r1 with
      | tup t q =>
        cases q.strs e2
        exact cr_sortedTS pins s σ H _ us Q I r ⟨_, ss, rfl, hK ▸ t, h64, fun ys p h1 h2 hp => QV.new (fun p hp => h ys p h1 h2 hp) ok RVs.ofStrs hp⟩
  · obtain ⟨xs, kvs, e, e2, h⟩ := h
    cases rs with
    | cons r1 rs =>
      cases rs; cases r1
      obtain ⟨vs, e1, q⟩ := ok.lst e
      obtain ⟨ps, l, evs, pr, rk⟩ := kvs_rk q e2
      rw [evs] at e1
      exact call_dictP hc pins s σ H _ us Q I r ⟨_, ps, l, rfl, .of e1, hK ▸ pr, fun p hp => by
        have x : Ext C.K H (L2.upd H p (.dK (mergeK [] l))) := Ext.new hp
        exact h p (ok.none_of hp) _ _ x (ok.new hp ⟨_, upd_same, (RKs.merge rk .nil).ext x⟩) (.ref p)⟩
  · obtain ⟨xs, ns, e, e2, h⟩ := h
    cases rs with
    | cons r1 rs =>
      cases rs
      obtain ⟨p, vs, rfl, q, z⟩ := sq_of ok r1 e
      cases q.ints e2
      refine cr_sumA hc pins s σ H _ us Q I r ⟨_, ns, rfl, ?_, h.at ok (.int _)⟩
      rcases z with z | z
      · exact .inl (hK ▸ z)
      · exact .inr (hK ▸ z.1)
  · obtain ⟨xs, ns, e, e2, h⟩ := h
    cases rs with
    | cons r1 rs =>
      cases rs; cases r1
      obtain ⟨vs, e1, q⟩ := ok.lst e
      cases q.bls e2
      exact cr_all hc pins s σ H _ us Q I r ⟨_, ns, rfl, .of e1, h.at ok (.bl _)⟩
  · obtain ⟨xs, ns, e, e2, h⟩ := h
    cases rs with
    | cons r1 rs =>
      cases rs; cases r1
      obtain ⟨vs, e1, q⟩ := ok.lst e
      cases q.bls e2
      exact cr_any hc pins s σ H _ us Q I r ⟨_, ns, rfl, .of e1, h.at ok (.bl _)⟩
  · exact h.elim
end
/-! ### isinstance -/
def Kd.nm : Kd → String
  | .non => "NoneType"
  | .bl => "bool"
  | .int => "int"
  | .str => "str"
  | .tup => "tuple"
  | .lst => "list"
  | .dic => "dict"
def Ty.nm : Ty → Option String
  | .int => some "int"
  | .bool => some "bool"
  | .str => some "str"
  | .list => some "list"
  | .tuple => some "tuple"
  | .dict => some "dict"
  | .cls _ => none
theorem kd_kit (k : Kd) (t : Ty) (b : Bool) (n : String) (h : kdTy k t = some b) (hn : t.nm = some n) : kitB k.nm n = some b := by
  cases k <;> cases t <;> cases h <;> cases hn <;> decide +kernel
theorem kd_ty {C : Cn} {H : Hp} {S : Store} (ok : SOk C H S) {v : V} {d : D} {k : Kd} (r : RV C.K H v d) (h : kdOf S d = some k) : TyX C.K H v (.type k.nm) := by
  cases r with
  | non => cases h; exact .base .non
  | bl b => cases h; exact .base (.bl b)
  | int b => cases h; exact .base (.int b)
  | str b => cases h; exact .base (.str b)
  | tup t q =>
    cases h
    rcases t with (t | ⟨o, t⟩) | ⟨o, its, n, t, c, _⟩
    · exact .base (.tup t)
    · exact .fTuple t
    · exact .kTuple t c
  | rl t q =>
    cases h
    rcases t with ⟨o, t⟩ | ⟨o, its, n, t, c, _⟩
    · exact .base (.frz t)
    · exact .kList t c
  | ref a =>
    simp only [kdOf, Store.rd] at h
    cases e : S a with
    | none => rw [e] at h; cases h
    | some c =>
      rw [e] at h
      cases c with
      | lst xs =>
        cases h
        obtain ⟨vs, e1, _⟩ := ok.lst e
        exact .base (.lst e1)
      | dic xs =>
        cases h
        obtain ⟨vs, e1, _⟩ := ok.dic e
        exact .base (.dK e1)
      | ins _ _ => cases h
      | fz c =>
        cases c with
        | lst xs => exact (ok a _ e).elim
        | dic xs =>
          cases h
          obtain ⟨o, vs, e1, _⟩ := ok a _ e
          exact .fDict e1
        | ins _ _ => exact (ok a _ e).elim
        | fz _ => exact (ok a _ e).elim
def tysV : List Ty → Option (List V)
  | [] => some []
  | t :: ts => match t.nm, tysV ts with
    | some n, some r => some (.ty n :: r)
    | _, _ => none
theorem tysV_ok {K : PySem.W.Frag} {k : Kd} : ∀ {ts : List Ty} {vs : List V} {b : Bool}, tysV ts = some vs → isTys k ts = some b → ∃ us, Paired ClsV vs us ∧ PySem.W.kitAny K (.type k.nm) us = some b
  | [], vs, b, h, e => by
    cases h; cases e
    exact ⟨[], .nil, rfl⟩
  | t :: ts, vs, b, h, e => by
    unfold tysV at h
    unfold isTys at e
    cases hn : t.nm with
    | none => rw [hn] at h; cases h
    | some n =>
      cases hr : tysV ts with
      | none => rw [hn, hr] at h; cases h
      | some r =>
        rw [hn, hr] at h
        cases h
        cases h1 : kdTy k t with
        | none => rw [h1] at e; cases e
        | some b1 =>
          cases h2 : isTys k ts with
          | none => rw [h1, h2] at e; cases e
          | some b2 =>
            rw [h1, h2] at e
            cases e
            obtain ⟨us, p, q⟩ := tysV_ok (K := K) hr h2
            refine ⟨.type n :: us, .cons (.ty n) p, kitAny_cons (kit_ty (kd_kit k t b1 n h1 hn)) (fun z => ?_) fun z => ?_⟩
            · rw [q, z]
              rfl
            · rw [z]
              rfl
end SW
/-! SW, part Ea: sorted(set(a list of ints)). -/
namespace SW
open PySem PySem.Spec PyProof.Rows L2
/-- a set that is new and empty -/
abbrev emp (w : World) : Obj := { cls := .type "set", dict := none, data := .set #[] 0 (.fresh 0 0 (!w.params.followText "set-order")) }
section
variable {P : Program} {w : World} {A : Around} {E : Value → Shared → Prop} {s : Shared}
theorem set_ints {l : Addr} {xs : Array Value} (ns : List Int) {Q : Value → Shared → Prop} (nh : A.handled = none) (il : s.heap.IsList l xs) (ii : IntsAre xs.toList ns) (few : ns.length + 1 < scanBound)
    (fin : ∀ (g : Heap) (t c : Nat), SetR w g s.heap.objs.size (fun j => decide (j ∈ ns)) c → c ≤ ns.length → (∀ b o, s.heap.get? b = some o → g.get? b = some o) → Q (.ref s.heap.objs.size) { s with heap := g, toks := t }) :
    wpAny (model P w) A (call (.type "set") [.ref l]) Q E s := by
  have sz : xs.size = ns.length := (Array.length_toList (xs := xs)).symm.trans (IntsAre.length ii)
  obtain ⟨mro1, mro2, mro3⟩ := F.called_set.mro
  have f1 := F.called_set.made; have f2 := F.called_set.sub
  refine wpAny_call (codeAny_of_tree (show wpAny _ _ (callAny (.type "set") _) _ _ _ from wpAny_pure ⟨Code.quiet_builtin _ (by decide +kernel), codeAny_builtin F.entry_type_call ?_⟩))
  rw [Around.under_plain (weight_type_call_type "set" ([.ref l] : List Value) []) (Eq.refl _)]
  have f3 := F.called_set.notType; have f4 := F.called_set.canCreate; have f5 := F.typeCall_set_1 (.ref l)
  repeat (any_goals first | assumption | wp_step)
  refine codeAny_mono (code_set_led1 (.ref l) (E := E) (Q₁ := fun o t => o = .ref s.heap.objs.size ∧ t = { s with heap := s.heap.push (emp w) }) ⟨rfl, rfl⟩) fun r t hr => ?_
  cases r with
  | error e => exact hr
  | ok fl =>
    cases fl with
    | ret o =>
      obtain ⟨rfl, rfl⟩ := hr
      have at0 : (s.heap.push (emp w)).get? s.heap.objs.size = some (emp w) := Heap.get?_push_size _ rfl
      have ty0 : Shared.TypeIs { s with heap := s.heap.push (emp w) } (.ref s.heap.objs.size) "set" := ⟨_, at0, rfl⟩
      have f6 := F.called_set.init.lookup; have f7 := F.called_set.init.bind (.ref s.heap.objs.size)
      repeat (any_goals first | assumption | wp_step)
      refine codeAny_mono (codeAny_call_builtin (R := wants (fun r u => r = .none ∧ ∃ g t c, u = { s with heap := g, toks := t } ∧ SetR w g s.heap.objs.size (fun j => decide (j ∈ ns)) c ∧ c ≤ ns.length ∧ ∀ b o, s.heap.get? b = some o → g.get? b = some o) E) F.called_set.init.plain F.entry_set_init (check_set_init_1 ty0 ?_)) fun r2 t2 hr2 => ?_
      · obtain ⟨ob, e1, e2, no, e3⟩ := il
        obtain ⟨ocls, odict, odata, oslots⟩ := ob
        simp only at e2 e3
        subst e2 e3
        have e4 : (s.heap.push (emp w)).get? l = some { cls := .type "list", dict := odict, data := .seq xs no, slots := oslots } := Heap.get?_push_of_some _ e1
        have s1 := F.sub_list_set; have s2 := F.sub_list_frozenset
        have s3 : (Value.type "list" == Value.type "dict") = false := by decide
        have il1 : (s.heap.push (emp w)).IsList l xs := ⟨_, e4, rfl, no, rfl⟩
        unfold Builtin.«set.__init__» noKeywords Builtin.Frozenset.updateFrom
        generalize hPy : pyIter = Py
        wp_walk
        subst hPy
        refine wpAny_pyIter_list il1 (wpAny_bind (wpAny_runValue ?_))
        have lS : l < s.heap.objs.size := Heap.lt_size e1
        have nh3 : A.in1.in1.in1.handled = none := by simp [nh]
        have ne1 : l ≠ (s.heap.push (emp w)).objs.size := fun z => absurd lS (by rw [z, Heap.size_push]; exact Nat.not_lt.mpr (Nat.le_succ _))
        have ne2 : s.heap.objs.size ∉ [(s.heap.push (emp w)).objs.size, l] := by
          intro z
          rw [Heap.size_push] at z
          rcases List.mem_cons.mp z with z | z
          · exact absurd z (Nat.ne_of_lt (Nat.lt_succ_self _))
          · exact absurd (List.mem_singleton.mp z) (Nat.ne_of_gt lS)
        have vals : ∀ (i : Nat) (v : Value), xs[i]? = some v → ∃ k t, ns[i]? = some k ∧ v = .int k t := fun i v hv => by
          have li : i < ns.length := sz ▸ (Array.getElem?_eq_some_iff.mp hv).1
          obtain ⟨t, e⟩ := IntsAre.int_at ii i v (by rw [Array.getElem?_toList]; exact hv)
          exact ⟨ns[i], t, List.getElem?_eq_getElem li, by rw [e, List.getD_eq_getElem?_getD, List.getElem?_eq_getElem li] <;> rfl⟩
        refine set_update_ints ((Walks.list nh3 _ l ne1 xs).toS) s.heap.objs.size ne2 ns sz few vals (xs.size - 0) 0 _ (by omega) (Nat.zero_le _) ⟨⟨_, Heap.get?_push_size _ rfl, rfl, rfl⟩, (il1.push _)⟩ ⟨0, Nat.le_refl 0, setR_new_at (Heap.get?_push_of_some _ at0)⟩ ?_
        intro u c mv lc R
        obtain ⟨g, gn, dr, tk, os⟩ := u
        have q1 : gn = s.gens := mv.gens
        have q2 : dr = s.drawn := mv.drawn
        have q3 : os = s.os := mv.os
        subst q1 q2 q3
        show wpAny _ _ _ _ _ _
        refine wpAny_pure ?_
        show wpAny _ _ (ret Value.none) _ _ _
        refine wpAny_pure ⟨rfl, g, tk, c, rfl, R, sz ▸ lc, fun b o e => ?_⟩
        have lb : b < s.heap.objs.size := Heap.lt_size e
        refine mv.heap b o (fun z => ?_) (Heap.get?_push_of_some _ (Heap.get?_push_of_some _ e))
        rw [Heap.size_push] at z
        rcases List.mem_cons.mp z with z | z
        · exact absurd z (Nat.ne_of_lt lb)
        · rcases List.mem_cons.mp z with z | z
          · exact absurd z (Nat.ne_of_lt (Nat.lt_succ_of_lt lb))
          · cases z
      · cases r2 with
        | error e => exact hr2
        | ok fl2 =>
          cases fl2 with
          | ret r =>
            obtain ⟨rfl, g, t, c, rfl, R, lc, kp⟩ := hr2
            repeat (any_goals first | assumption | wp_step)
            exact fin _ _ _ R lc kp
          | _ => exact hr2.elim
    | _ => exact hr.elim
end
section
variable {X : L2.Cx} {C : Cn} {W : WX}
/-- set(a list of ints) -/
def rSetL (w : World) (K : PySem.W.Frag) : List V → Hp → VK → Prop := fun vs H Q => ∃ (a : Addr) (ns : List Int), vs = [V.ref a] ∧ SqL K H a (ns.map V.int) ∧ ns.length < 1000 ∧
  ∀ (p : Addr) (c : Nat), c ≤ ns.length → H p = none → Q (.ref p) (L2.upd H p (SetO w p (fun j => decide (j ∈ ns)) c))
theorem cr_setL (hc : X.calm = true) : CallR X (.type "set") (rSetL X.w X.K) := by
  intro pins s σ H vs us Q I r h
  obtain ⟨a, ns, rfl, ha, few, q⟩ := h
  rw [Vals.ref1 r]
  obtain ⟨its, rv, pl, _⟩ := I.list ha
  refine set_ints ns (I.ok.hd hc) (show s.heap.IsList a its.toArray from pl.isList) (ints_of_vals rv) (by unfold scanBound; omega) fun g t c R lc kp => ?_
  exact ⟨.ref _, L2.upd H s.heap.objs.size (SetO X.w s.heap.objs.size (fun j => decide (j ∈ ns)) c), I.laid (t' := t) kp (Nat.le_refl _) (setO_new R), rfl, q _ c lc (I.hok.fresh (Nat.le_refl _))⟩
/-- the members of a list, each once -/
theorem dedup_mem {k : Int} : ∀ (ns acc : List Int), k ∈ ns.foldl step_dedup acc ↔ k ∈ acc ∨ k ∈ ns
  | [], acc => by simp
  | n :: ns, acc => by
    rw [List.foldl_cons, dedup_mem ns, List.mem_cons]
    unfold step_dedup
    by_cases c : acc.any (· == n) = true
    · rw [if_pos c]
      obtain ⟨x, hx, e⟩ := List.any_eq_true.mp c
      have e : x = n := eq_of_beq e
      subst e
      constructor
      · rintro (h | h)
        · exact .inl h
        · exact .inr (.inr h)
      · rintro (h | rfl | h)
        · exact .inl h
        · exact .inl hx
        · exact .inr h
    · rw [if_neg c, List.mem_append, List.mem_singleton]
      constructor
      · rintro ((h | h) | h)
        · exact .inl h
        · exact .inr (.inl h)
        · exact .inr (.inr h)
      · rintro (h | h | h)
        · exact .inl (.inl h)
        · exact .inl (.inr h)
        · exact .inr h
theorem dedup_nodup : ∀ (ns acc : List Int), acc.Nodup → (ns.foldl step_dedup acc).Nodup
  | [], acc, h => h
  | n :: ns, acc, h => by
    rw [List.foldl_cons]
    refine dedup_nodup ns _ ?_
    unfold step_dedup
    by_cases c : acc.any (· == n) = true
    · rw [if_pos c]; exact h
    · rw [if_neg c, List.nodup_append]
      refine ⟨h, List.pairwise_singleton _ _, fun x hx y hy e => c (List.any_eq_true.mpr ⟨x, hx, ?_⟩)⟩
      rw [List.mem_singleton.mp hy] at e
      exact beq_iff_eq.mpr e
theorem len_le_of : ∀ {l m : List Int}, l.Nodup → (∀ x ∈ l, x ∈ m) → l.length ≤ m.length
  | [], _, _, _ => Nat.zero_le _
  | x :: l, m, n, h => by
    rw [List.nodup_cons] at n
    have hx := h x List.mem_cons_self
    have e := List.length_erase_of_mem hx
    have p : 0 < m.length := List.length_pos_of_mem hx
    have q := len_le_of (m := m.erase x) n.2 fun y hy => (List.mem_erase_of_ne (fun z => n.1 (by rw [← z]; exact hy))).mpr (h y (List.mem_cons_of_mem _ hy))
    rw [List.length_cons]
    omega
theorem setR_count {w : World} {h : Heap} {a : Addr} {ns : List Int} {c : Nat} (R : SetR w h a (fun j => decide (j ∈ ns)) c) : c = (ns.foldl step_dedup []).length := by
  obtain ⟨o, es, ep, t, ho, hex, hd, g, nd, hm, hb, hf, hn, hr, hl⟩ := R
  have e1 : (es.toList.map keyOf).length = c := by rw [List.length_map, Array.length_toList]; exact hn
  have m1 : ∀ k, k ∈ es.toList.map keyOf ↔ k ∈ ns := fun k => (hm k).symm.trans decide_eq_true_iff
  have m2 : ∀ k, k ∈ ns.foldl step_dedup [] ↔ k ∈ ns := fun k => (dedup_mem ns []).trans (by simp)
  have a1 := len_le_of nd fun x hx => (m2 x).mpr ((m1 x).mp hx)
  have a2 := len_le_of (dedup_nodup ns [] List.nodup_nil) fun x hx => (m1 x).mpr ((m2 x).mp hx)
  omega
def rLenSet (w : World) : List V → Hp → VK → Prop := fun vs H Q => ∃ (a : Addr) (ns : List Int) (c : Nat), vs = [V.ref a] ∧ H a = some (SetO w a (fun j => decide (j ∈ ns)) c) ∧ c ≤ 4000 ∧ Q (.int ((ns.foldl step_dedup []).length : Nat)) H
theorem cr_lenSet : CallR X (.builtin "len") (rLenSet X.w) := by
  intro pins s σ H vs us Q I r h
  obtain ⟨a, ns, c, rfl, ha, few, q⟩ := h
  rw [Vals.ref1 r]
  have R := setO_get I ha
  have ec := setR_count R
  obtain ⟨o, es, ep, t, ho, hex, hd, g, nd, hm, hb, hf, hn, hr, hl⟩ := R
  exact call_len_set ho hex hd hf (by rw [hn]; omega) ⟨.int _, H, I.tok _, ⟨_, by rw [hn, ec]⟩, q⟩
end
/-! ### list(reversed(a list)) -/
section
variable {P : Program} {w : World} {A : Around} {E : Value → Shared → Prop} {s : Shared}
theorem rev_extend {R : Result → Shared → Prop} {it l S : Addr} {xs : Array Value} {c : Nat} (nh : A.handled = none) (rit : s.heap.IsRevIter it l ((xs.size : Int) - 1)) (il : s.heap.IsList l xs) (ne : l ≠ it) (few : xs.size ≤ sizeLine) (ne1 : S ≠ it) (ne2 : S ≠ l) (hS : s.heap.get? S = some { cls := .type "list", data := .seq #[] c })
    (fin : ∀ g t acc c', (∀ b o, b ≠ S → b ≠ it → s.heap.get? b = some o → g.get? b = some o) → g.get? S = some { cls := .type "list", dict := none, data := .seq acc c', slots := #[] } → ItemsOf (fun i v => xs[xs.size - 1 - i]? = some v) acc xs.size → R (.ok (.ret .none)) { s with heap := g, toks := t }) :
    wpAny (model P w) A.in1 (Builtin.List.listExtendWith (.ref S) (.ref it) .none)
      (fun f s' => match f with | .done f => R (.ok f) s' | .again c' => c'.quiet = true ∧ codeAny (model P w) A c' R s') (fun e s' => R (.error e) s') s := by
  have W := (Walks.listRev (prog := P) (w := w) (A := A.in1) nh it l ne xs).toS
  have nin : S ∉ [it, l] := by
    intro z
    rcases List.mem_cons.mp z with z | z
    · exact ne1 z
    · exact ne2 (List.mem_singleton.mp z)
  have ty : s.TypeIs (.ref it) "list_reverseiterator" := rit.typeIs
  have same : Builtin.List.listSameRef (.ref S) (.ref it) = false := by simp [Builtin.List.listSameRef, ne1]
  unfold Builtin.List.listExtendWith
  refine wpAny_bind (wpAny_typeOf ty ?_)
  rw [if_neg (by rw [same]; decide)]
  refine wpAny_bind (wpAny_pyIter_revIter rit (wpAny_bind (wpAny_holding ?_)))
  unfold Builtin.List.listLengthHint
  refine wpAny_bind (wpAny_specialOf ty RT.nolen_lri ?_)
  show wpAny _ A.in1 (specialOf (Value.ref it) (Str.ofString "__length_hint__") >>= _) _ _ _
  refine wpAny_bind (wpAny_specialOf ty RT.hint_lri ?_)
  generalize hN : ("list_reverseiterator.__length_hint__" : String) = N
  wp_delta
  rw [show splitId N = some ("list_reverseiterator", "__length_hint__") from by subst hN; decide +kernel]
  subst hN
  refine wpAny_bind (wpAny_isInstance (b := true) ty (by rw [isSubtype_type]; kernel_rfl) (wpAny_pure ?_))
  rw [if_neg (by decide)]
  have e0 : ((xs.size : Nat) : Int) - 1 - ((0 : Nat) : Int) = (xs.size : Int) - 1 := by omega
  refine wpAny_pure ⟨plainId_quiet F.plain_extend_loop _, codeAny_extend_loopS W few _ nin _ xs.size 0 _ _ _ rfl (Nat.zero_le _) ⟨Nat.zero_le _, by rw [e0]; exact rit, il⟩ hS (ItemsOf.nil _) fun u acc c' mv hu ia => ?_⟩
  rw [Moved.eq_with mv]
  refine fin u.heap u.toks acc c' (fun b o b1 b2 e => mv.heap b o (fun z => ?_) e) hu ia
  rcases List.mem_cons.mp z with z | z
  · exact b1 z
  · exact b2 (List.mem_singleton.mp z)
theorem call_list_rev {it l : Addr} {xs : Array Value} {Q : Value → Shared → Prop} (nh : A.handled = none) (rit : s.heap.IsRevIter it l ((xs.size : Int) - 1)) (il : s.heap.IsList l xs) (ne : l ≠ it) (few : xs.size ≤ sizeLine)
    (fin : ∀ g t acc c', (∀ b o, b ≠ it → s.heap.get? b = some o → g.get? b = some o) → g.get? s.heap.objs.size = some { cls := .type "list", dict := none, data := .seq acc c', slots := #[] } → ItemsOf (fun i v => xs[xs.size - 1 - i]? = some v) acc xs.size → Q (.ref s.heap.objs.size) { s with heap := g, toks := t }) :
    wpAny (model P w) A (call (.type "list") [.ref it]) Q E s := by
  obtain ⟨oi, hi, hi2⟩ := id rit
  obtain ⟨ol, hl, hl2⟩ := id il
  refine PySem.callType_codes (Q₁ := fun obj s₁ => obj = .ref s.heap.objs.size ∧ s₁ = { s with heap := s.heap.push { cls := .type "list", data := .seq #[] } }) PySem.F.called_list (PySem.F.typeCall_list_1 _) PySem.F.entry_list_init (code_list_new _ ⟨rfl, rfl⟩) fun obj s₁ h₁ => ?_
  obtain ⟨rfl, rfl⟩ := h₁
  have hS : (s.heap.push { cls := .type "list", data := .seq #[] }).get? s.heap.objs.size = some { cls := .type "list", data := .seq #[] } := Heap.get?_push_size _ rfl
  have n1 : s.heap.objs.size ≠ it := Nat.ne_of_gt (Heap.lt_size hi)
  have n2 : s.heap.objs.size ≠ l := Nat.ne_of_gt (Heap.lt_size hl)
  refine ⟨⟨_, hS, rfl⟩, PySem.F.args_list_init_2 _ _, ?_⟩
  show wpAny _ _ (do let old ← Builtin.List.listItems (.ref s.heap.objs.size); Builtin.List.listUpdate (.ref s.heap.objs.size) (fun _ => #[]); letGo old.toList.reverse; Builtin.List.listExtendWith (.ref s.heap.objs.size) (.ref it) .none) _ _ _
  refine wpAny_bind ?_
  unfold Builtin.List.listItems
  refine wpAny_bind (wpAny_seqItems hS rfl (wpAny_pure ?_))
  show wpAny _ _ (updateSeq s.heap.objs.size (fun _ => #[]) >>= fun _ => letGo (#[] : Array Value).toList.reverse >>= fun _ => Builtin.List.listExtendWith (.ref s.heap.objs.size) (.ref it) .none) _ _ _
  refine wpAny_bind (wpAny_updateSeq hS rfl ?_)
  have hS2 := Heap.get?_update_self (Obj.mapSeq (fun _ => (#[] : Array Value))) hS rfl
  have oth : ∀ b o, b ≠ s.heap.objs.size → s.heap.get? b = some o → ((s.heap.push { cls := .type "list", data := .seq #[] }).update s.heap.objs.size (Obj.mapSeq (fun _ => (#[] : Array Value)))).get? b = some o :=
    fun b o hb e => (Heap.get?_update_other _ _ (Ne.symm hb)).trans (Heap.get?_push_of_some _ e)
  refine wpAny_bind (wpAny_letGo ?_)
  refine rev_extend (A := A.in1) nh ⟨oi, oth _ _ (Ne.symm n1) hi, hi2⟩ ⟨ol, oth _ _ (Ne.symm n2) hl, hl2⟩ ne few n1 n2 hS2 fun g t acc c' kp hg ia => ?_
  exact ⟨rfl, fin g t acc c' (fun b o b2 e => kp b o (Nat.ne_of_lt (Heap.lt_size e)) b2 (oth b o (Nat.ne_of_lt (Heap.lt_size e)) e)) hg ia⟩
end
section
variable {X : L2.Cx}
theorem pe_listRev {e : Expr} {te : TE} {p p2 pos pos2 : Pos} (hc : X.calm = true) (hg : Gl X "list") (hm : X.mg "list" = none) (hg2 : Gl X "reversed") (hm2 : X.mg "reversed" = none) (he : PE X e te)
    (hs : starEach [e] X.env = (false, eval e X.env) :: starEach [] X.env)
    (hs2 : starEach [.Call (.Name "reversed" p2) [e] [] pos2] X.env = (false, eval (.Call (.Name "reversed" p2) [e] [] pos2) X.env) :: starEach [] X.env := by rfl) :
    PE X (.Call (.Name "list" p) [.Call (.Name "reversed" p2) [e] [] pos2] [] pos) (tRevL X.K te) := by
  refine ⟨fun pins s σ H Q I h => ?_⟩
  refine Call_ (ld_blt I hg hm boot_list (PyProof.Rows.callWith_type1 (args_cons (Call_ (ld_blt I hg2 hm2 PyProof.Rows.boot_reversed (PyProof.Rows.callWith_type1 (args_cons (thn (he.run pins s σ H _ I h) fun u s1 ⟨v, H1, I1, r1, q1⟩ => args_nil ?_) hs) hs rfl))) hs2) hs2 rfl))
  obtain ⟨a, xs, ev, hq, q⟩ := q1
  subst ev
  obtain rfl : u = Value.ref a := r1
  obtain ⟨its, rv, pl, hz⟩ := I1.list hq
  refine call_reversed_list pl.isList (args_nil ?_)
  have k0 : ∀ b o, s1.heap.get? b = some o → (s1.heap.push (revObj a ((its.toArray.size : Int) - 1))).get? b = some o := fun b o e => Heap.get?_push_of_some _ e
  have I2 : L2.Inv X pins σ H1 { s1 with heap := s1.heap.push (revObj a ((its.toArray.size : Int) - 1)) } := I1.kept (t' := s1.toks) k0
  obtain ⟨f0, f1, f2, f3, f4, f5⟩ := I1.fpOk (H' := H1) (b := s1.heap.objs.size) (Nat.le_refl _) (I1.hok.fresh (Nat.le_refl _))
  have hl := pl.isList
  obtain ⟨ol, hol, _⟩ := id hl
  have hne : a ≠ s1.heap.objs.size := Nat.ne_of_lt (Heap.lt_size hol)
  have hn : its.toArray.size ≤ sizeLine := by rw [List.size_toArray, ← rv.length]; exact hz
  refine call_list_rev (s := { s1 with heap := s1.heap.push (revObj a ((its.toArray.size : Int) - 1)) }) (I1.ok.hd hc) ⟨_, Heap.get?_push_size _ rfl, rfl, rfl⟩ (hl.push _) hne hn fun g t acc c' kp hg ia => ?_
  have hsz : (s1.heap.push (revObj a ((its.toArray.size : Int) - 1))).objs.size = s1.heap.objs.size + 1 := Heap.size_push ..
  have r2 := RT.vals_rev rv ia
  refine ⟨.ref _, upd H1 (s1.heap.push (revObj a ((its.toArray.size : Int) - 1))).objs.size (.lst xs.reverse), I1.laid (t' := t) (fun b o e => kp b o (Nat.ne_of_lt (Heap.lt_size e)) (k0 b o e)) (by rw [hsz]; exact Nat.le_succ _) ⟨by rw [List.length_reverse]; exact hz, acc.toList, c', r2, by rw [Array.toArray_toList]; exact hg⟩, rfl, q _ (I1.hok.fresh (by rw [hsz]; exact Nat.le_succ _))⟩
end
end SW
/-! SW, part F: the meaning over the layer; one lemma a construct. -/
namespace SW
open PySem PySem.Spec PyProof.Rows L2
abbrev St2 := L2.St
abbrev WE := Env → Store → PQ → PX → Prop
abbrev WA := Env → Store → (List D → Store → Prop) → PX → Prop
def Rl (C : Cn) (σ : St2) (H : Hp) (env : Env) (S : Store) : Prop :=
  σ.length = env.length ∧ (∀ (i : Nat) (d : D), env[i]? = some (some d) → ∃ v, σ[i]? = some (some v) ∧ RV C.K H v d) ∧ SOk C H S
theorem Rl.ext {C : Cn} {σ : St2} {H H' : Hp} {env : Env} {S S' : Store} (r : Rl C σ H env S) (x : Ext C.K H H') (ok : SOk C H' S') : Rl C σ H' env S' :=
  ⟨r.1, fun i d e => let ⟨v, a, b⟩ := r.2.1 i d e; ⟨v, a, b.ext x⟩, ok⟩
theorem Rl.set {C : Cn} {σ : St2} {H : Hp} {env : Env} {S : Store} {v : V} {d : D} (r : Rl C σ H env S) (i : Nat) (q : RV C.K H v d) : Rl C (σ.set i (some v)) H (env.set i (some d)) S := by
  refine ⟨by rw [List.length_set, List.length_set]; exact r.1, fun j e hj => ?_, r.2.2⟩
  by_cases hij : i = j
  · subst hij
    by_cases hl : i < env.length
    · rw [List.getElem?_set_self hl] at hj
      cases hj
      exact ⟨v, List.getElem?_set_self (r.1 ▸ hl), q⟩
    · rw [List.getElem?_eq_none (by rw [List.length_set]; omega)] at hj
      cases hj
  · rw [List.getElem?_set_ne hij] at hj
    obtain ⟨w, a, b⟩ := r.2.1 j e hj
    exact ⟨w, (List.getElem?_set_ne hij).trans a, b⟩
def XW (C : Cn) (W : WX) (σ : St2) (H : Hp) : PX := fun c S' => ∀ H', Ext C.K H H' → SOk C H' S' → W (.ref (C.ca c)) none σ H'
theorem XW.ext {C : Cn} {W : WX} {σ : St2} {H H' : Hp} (x : Ext C.K H H') : ∀ c S, XW C W σ H c S → XW C W σ H' c S := fun _ _ h H2 x2 ok => h H2 (x.trans x2) ok
theorem QV.ext {C : Cn} {H H' : Hp} {Q : VK} (x : Ext C.K H H') : ∀ d S, QV C H Q d S → QV C H' Q d S := fun _ _ h v H2 x2 ok r => h v H2 (x.trans x2) ok r
def QB (C : Cn) (H : Hp) (Q : Bool → Hp → Prop) : PQ := fun d S' => ∃ b, d = .bl b ∧ ∀ H', Ext C.K H H' → SOk C H' S' → Q b H'
theorem QB.ext {C : Cn} {H H' : Hp} {Q : Bool → Hp → Prop} (x : Ext C.K H H') : ∀ d S, QB C H Q d S → QB C H' Q d S := fun _ _ ⟨b, e, h⟩ => ⟨b, e, fun H2 x2 ok => h H2 (x.trans x2) ok⟩
def QVs (C : Cn) (H : Hp) (Q : List V → Hp → Prop) : List D → Store → Prop := fun ds S' => ∀ vs H', Ext C.K H H' → SOk C H' S' → RVs C.K H' vs ds → Q vs H'
theorem QVs.ext {C : Cn} {H H' : Hp} {Q : List V → Hp → Prop} (x : Ext C.K H H') : ∀ d S, QVs C H Q d S → QVs C H' Q d S := fun _ _ h v H2 x2 ok r => h v H2 (x.trans x2) ok r
def LE (C : Cn) (W : WX) (w : WE) : TE := fun σ H Q => ∃ env S, Rl C σ H env S ∧ w env S (QV C H Q) (XW C W σ H)
def LT (C : Cn) (W : WX) (w : WE) : TT := fun σ H Q => ∃ env S, Rl C σ H env S ∧ w env S (QB C H Q) (XW C W σ H)
def LA (C : Cn) (W : WX) (w : WA) : TA := fun σ H Q => ∃ env S, Rl C σ H env S ∧ w env S (QVs C H Q) (XW C W σ H)
def MonoE (w : WE) : Prop := ∀ env S Q Q' E E', (∀ d S, Q d S → Q' d S) → (∀ c S, E c S → E' c S) → w env S Q E → w env S Q' E'
def MonoA (w : WA) : Prop := ∀ env S Q Q' E E', (∀ d S, Q d S → Q' d S) → (∀ c S, E c S → E' c S) → w env S Q E → w env S Q' E'
section
variable {C : Cn} {W : WX} {σ : St2} {H : Hp} {env : Env} {S : Store}
theorem LE.use {w : WE} (m : MonoE w) {k : PQ} {E : PX} {Q : VK} (r : Rl C σ H env S) (h : w env S k E) (hE : ∀ c S', E c S' → XW C W σ H c S')
    (hk : ∀ d S' v H', Ext C.K H H' → Rl C σ H' env S' → RV C.K H' v d → k d S' → Q v H') : LE C W w σ H Q :=
  ⟨env, S, r, m _ _ _ _ _ _ (fun d S' q v H' x ok rv => hk d S' v H' x (r.ext x ok) rv q) hE h⟩
theorem LA.use {w : WA} (m : MonoA w) {k : List D → Store → Prop} {E : PX} {Q : List V → Hp → Prop} (r : Rl C σ H env S) (h : w env S k E) (hE : ∀ c S', E c S' → XW C W σ H c S')
    (hk : ∀ d S' v H', Ext C.K H H' → Rl C σ H' env S' → RVs C.K H' v d → k d S' → Q v H') : LA C W w σ H Q :=
  ⟨env, S, r, m _ _ _ _ _ _ (fun d S' q v H' x ok rv => hk d S' v H' x (r.ext x ok) rv q) hE h⟩
theorem LT.use {w : WE} (m : MonoE w) {k : PQ} {E : PX} {Q : Bool → Hp → Prop} (r : Rl C σ H env S) (h : w env S k E) (hE : ∀ c S', E c S' → XW C W σ H c S')
    (hk : ∀ d S', k d S' → ∃ b, d = .bl b ∧ ∀ H', Ext C.K H H' → Rl C σ H' env S' → Q b H') : LT C W w σ H Q :=
  ⟨env, S, r, m _ _ _ _ _ _ (fun d S' q => let ⟨b, e, z⟩ := hk d S' q; ⟨b, e, fun H' x ok => z H' x (r.ext x ok)⟩) hE h⟩
end
theorem _root_.L2.PE.mono {X : Cx} {e : Expr} {t t' : TE} (h : PE X e t) (m : ∀ σ H Q, t' σ H Q → t σ H Q) : PE X e t' := ⟨fun pins s σ H Q I q => h.run pins s σ H Q I (m σ H Q q)⟩
theorem _root_.L2.PT.mono {X : Cx} {e : Expr} {t t' : TT} (h : PT X e t) (m : ∀ σ H Q, t' σ H Q → t σ H Q) : PT X e t' := ⟨fun pins s σ H Q I q => h.run pins s σ H Q I (m σ H Q q)⟩
theorem _root_.L2.PA.mono {X : Cx} {e : List Expr} {t t' : TA} (h : PA X e t) (m : ∀ σ H Q, t' σ H Q → t σ H Q) : PA X e t' := ⟨fun pos pins s σ H Q I q => h.run pos pins s σ H Q I (m σ H Q q)⟩
/-- an expression whose truth is asked the plain way -/
theorem plain_test {X : Cx} {C : Cn} {W : WX} {e : Expr} {w : WE} (h : PE X e (LE C W w)) (m : MonoE w) (hp : ∀ whole, isTrue e X.env whole = (do let v ← whole; standAt e.pos; holding [v] (truthy v))) : PT X e (LT C W w) := by
  refine (pt_val h hp).mono fun σ H Q ⟨env, S, r, q⟩ => ?_
  refine LE.use m r q (fun _ _ z => z) fun d S' v H' x r' rv ⟨b, e1, k⟩ => ?_
  subst e1
  cases rv
  exact ⟨b, rfl, k H' x r'.2.2⟩
section
variable {X : Cx} {C : Cn} {W : WX} (hK : X.K = C.K)
theorem s_var {i : Nat} {x : Str} {pos : Pos} (h : PE X (.Name x pos) (tVar i)) : PE X (.Name x pos) (LE C W fun env S Q _ => ∃ d, env[i]? = some (some d) ∧ Q d S) :=
  h.mono fun σ H Q ⟨env, S, r, d, e, q⟩ => by
    obtain ⟨v, a, b⟩ := r.2.1 i d e
    exact ⟨v, a, q.at r.2.2 b⟩
theorem s_cst {e : Expr} {v : V} {d : D} (h : PE X e (tC v)) (r : ∀ H, RV C.K H v d) : PE X e (LE C W fun _ S Q _ => Q d S) :=
  h.mono fun σ H Q ⟨env, S, rl, q⟩ => q.at rl.2.2 (r H)
theorem s_bin {a b : Expr} {op : Operator} {pos : Pos} {o : Bop} {wa wb : WE} (ho : OpR X (binaryOp op) (R2D C (wpBin o))) (ha : PE X a (LE C W wa)) (hb : PE X b (LE C W wb)) (ma : MonoE wa) (mb : MonoE wb) :
    PE X (.BinOp a op b pos) (LE C W fun env S Q E => wa env S (fun x S1 => wb env S1 (fun y S2 => wpBin o x y S2 Q) E) E) :=
  (pe_op ho ha hb).mono fun σ H Q ⟨env, S, r, q⟩ => LE.use ma r q (fun _ _ z => z) fun d1 S1 v1 H1 x1 r1 q1 k1 =>
    LE.use mb r1 k1 (XW.ext x1) fun d2 S2 v2 H2 x2 r2 q2 k2 => ⟨d1, d2, S2, q1.ext x2, q2, r2.2.2, wpBin_mono (QV.ext (x1.trans x2)) k2⟩
theorem s_cmp {a b : Expr} {op : CmpOp} {pos : Pos} {o : Cop} {wa wb : WE} (ho : OpR X (compareOp op) (CopR C o)) (ha : PE X a (LE C W wa)) (hb : PE X b (LE C W wb)) (ma : MonoE wa) (mb : MonoE wb) (hm : behindInMarks op b = false) :
    PE X (.Compare a [op] [b] pos) (LE C W fun env S Q E => wa env S (fun x S1 => wb env S1 (fun y S2 => wpCop o x y S2 fun c => Q (.bl c) S2) E) E) :=
  (pe_cmpR ho ha hb hm).mono fun σ H Q ⟨env, S, r, q⟩ => LE.use ma r q (fun _ _ z => z) fun d1 S1 v1 H1 x1 r1 q1 k1 =>
    LE.use mb r1 k1 (XW.ext x1) fun d2 S2 v2 H2 x2 r2 q2 k2 => ⟨d1, d2, S2, q1.ext x2, q2, r2.2.2, wpCop_mono (fun c z => z.ext (x1.trans x2)) k2⟩
theorem s_cmpT {a b : Expr} {op : CmpOp} {pos : Pos} {o : Cop} {wa wb : WE} (ho : OpR X (compareOp op) (CopR C o)) (ha : PE X a (LE C W wa)) (hb : PE X b (LE C W wb)) (ma : MonoE wa) (mb : MonoE wb) (hm : behindInMarks op b = false) :
    PT X (.Compare a [op] [b] pos) (LT C W fun env S Q E => wa env S (fun x S1 => wb env S1 (fun y S2 => wpCop o x y S2 fun c => Q (.bl c) S2) E) E) :=
  (pt_cmpR ho ha hb hm).mono fun σ H Q ⟨env, S, r, q⟩ => LE.use ma r q (fun _ _ z => z) fun d1 S1 v1 H1 x1 r1 q1 k1 =>
    LE.use mb r1 k1 (XW.ext x1) fun d2 S2 v2 H2 x2 r2 q2 k2 => ⟨d1, d2, S2, q1.ext x2, q2, r2.2.2, wpCop_mono (fun c z v H' x ok rv => by
      obtain ⟨b, e, z⟩ := z
      cases e
      cases rv
      exact ⟨_, rfl, z H' (x1.trans (x2.trans x)) ok⟩) k2⟩
theorem s_chn {a b c : Expr} {op op' : CmpOp} {pos : Pos} {o o' : Cop} {wa wb wc : WE} (ho : OpR X (compareOp op) (CopR C o)) (ho' : OpR X (compareOp op') (CopR C o')) (ha : PE X a (LE C W wa)) (hb : PE X b (LE C W wb)) (hc : PE X c (LE C W wc))
    (ma : MonoE wa) (mb : MonoE wb) (mc : MonoE wc) (hm : lastMarks [op, op'] [b, c] = false) : PE X (.Compare a [op, op'] [b, c] pos) (LE C W fun env S Q E => wa env S (fun x S1 => wb env S1 (fun y S2 => wpCop o x y S2 fun k => ∃ c', D.bl k = .bl c' ∧ if c' = true then
      wc env S2 (fun z S3 => wpCop o' y z S3 fun k' => Q (.bl k') S3) E else Q (.bl false) S2) E) E) :=
  (pe_chain ho ho' ha hb hc hm).mono fun σ H Q ⟨env, S, r, q⟩ => LE.use ma r q (fun _ _ z => z) fun d1 S1 v1 H1 x1 r1 q1 k1 =>
    LE.use mb r1 k1 (XW.ext x1) fun d2 S2 v2 H2 x2 r2 q2 k2 => ⟨d1, d2, S2, q1.ext x2, q2, r2.2.2, wpCop_mono (fun k z v H' x ok rv => by
      cases rv
      obtain ⟨k', ek, z⟩ := z
      cases ek
      refine ⟨k, rfl, ?_⟩
      have r3 := r2.ext x ok
      cases k with
      | true =>
        rw [if_pos rfl] at z ⊢
        refine LE.use mc r3 z (XW.ext (x1.trans (x2.trans x))) fun d3 S3 v3 H3 x3 r4 q3 k3 => ⟨d2, d3, S3, q2.ext (x.trans x3), q3, r4.2.2, wpCop_mono (fun k' z => z.ext (x1.trans (x2.trans (x.trans x3)))) k3⟩
      | false =>
        rw [if_neg Bool.false_ne_true] at z ⊢
        exact (QV.ext (x1.trans (x2.trans x)) _ _ z).at ok (.bl _)) k2⟩
theorem s_chnT {a b c : Expr} {op op' : CmpOp} {pos : Pos} {o o' : Cop} {wa wb wc : WE} (ho : OpR X (compareOp op) (CopR C o)) (ho' : OpR X (compareOp op') (CopR C o')) (ha : PE X a (LE C W wa)) (hb : PE X b (LE C W wb)) (hc : PE X c (LE C W wc))
    (ma : MonoE wa) (mb : MonoE wb) (mc : MonoE wc) (hm : lastMarks [op, op'] [b, c] = false) : PT X (.Compare a [op, op'] [b, c] pos) (LT C W fun env S Q E => wa env S (fun x S1 => wb env S1 (fun y S2 => wpCop o x y S2 fun k => ∃ c', D.bl k = .bl c' ∧ if c' = true then
      wc env S2 (fun z S3 => wpCop o' y z S3 fun k' => Q (.bl k') S3) E else Q (.bl false) S2) E) E) :=
  (pt_chain ho ho' ha hb hc hm).mono fun σ H Q ⟨env, S, r, q⟩ => LE.use ma r q (fun _ _ z => z) fun d1 S1 v1 H1 x1 r1 q1 k1 =>
    LE.use mb r1 k1 (XW.ext x1) fun d2 S2 v2 H2 x2 r2 q2 k2 => ⟨d1, d2, S2, q1.ext x2, q2, r2.2.2, wpCop_mono (fun k z v H' x ok rv => by
      cases rv
      obtain ⟨k', ek, z⟩ := z
      cases ek
      refine ⟨k, rfl, ?_⟩
      have r3 := r2.ext x ok
      cases k with
      | true =>
        rw [if_pos rfl] at z ⊢
        refine LE.use mc r3 z (XW.ext (x1.trans (x2.trans x))) fun d3 S3 v3 H3 x3 r4 q3 k3 => ⟨d2, d3, S3, q2.ext (x.trans x3), q3, r4.2.2, wpCop_mono (fun k' z v H' x' ok' rv => by
          obtain ⟨b, e, z⟩ := z
          cases e
          cases rv
          exact ⟨_, rfl, z H' (x1.trans (x2.trans (x.trans (x3.trans x')))) ok'⟩) k3⟩
      | false =>
        rw [if_neg Bool.false_ne_true] at z ⊢
        obtain ⟨b, e, z⟩ := z
        cases e
        exact ⟨_, rfl, z _ (x1.trans (x2.trans x)) ok⟩) k2⟩
theorem s_no {a : Expr} {pos : Pos} {wa : WE} (ha : PE X a (LE C W wa)) (ma : MonoE wa) : PE X (.UnaryOp .Not a pos) (LE C W fun env S Q E => wa env S (fun x S1 => ∃ c, x = .bl c ∧ Q (.bl (!c)) S1) E) :=
  (pe_not ha).mono fun σ H Q ⟨env, S, r, q⟩ => LE.use ma r q (fun _ _ z => z) fun d1 S1 v1 H1 x1 r1 q1 ⟨c, e, k⟩ => by
    subst e
    cases q1
    exact ⟨c, rfl, (QV.ext x1 _ _ k).at r1.2.2 (.bl _)⟩
theorem s_noT {a : Expr} {pos : Pos} {wa : WE} (ha : PT X a (LT C W wa)) (ma : MonoE wa) : PT X (.UnaryOp .Not a pos) (LT C W fun env S Q E => wa env S (fun x S1 => ∃ c, x = .bl c ∧ Q (.bl (!c)) S1) E) :=
  (pt_not ha).mono fun σ H Q ⟨env, S, r, q⟩ => LT.use ma r q (fun _ _ z => z) fun d1 S1 ⟨c, e, b, e2, k⟩ => by
    cases e2
    exact ⟨c, e, fun H' x r' => k H' x r'.2.2⟩
theorem s_neg {a : Expr} {pos : Pos} {wa : WE} (ha : PE X a (LE C W wa)) (ma : MonoE wa) : PE X (.UnaryOp .USub a pos) (LE C W fun env S Q E => wa env S (fun x S1 => ∃ i, x = .int i ∧ Q (.int (-i)) S1) E) :=
  (pe_un un_neg ha).mono fun σ H Q ⟨env, S, r, q⟩ => LE.use ma r q (fun _ _ z => z) fun d1 S1 v1 H1 x1 r1 q1 ⟨c, e, k⟩ => by
    subst e
    cases q1
    exact ⟨c, rfl, (QV.ext x1 _ _ k).at r1.2.2 (.int _)⟩
theorem s_an {a b : Expr} {rest : List Expr} {pos : Pos} {wa wb : WE} (ha : PE X a (LE C W wa)) (hb : PE X (.BoolOp .And (b :: rest) pos) (LE C W wb)) (ma : MonoE wa) (mb : MonoE wb) :
    PE X (.BoolOp .And (a :: b :: rest) pos) (LE C W fun env S Q E => wa env S (fun x S1 => ∃ c, x = .bl c ∧ if c = true then wb env S1 Q E else Q (.bl false) S1) E) :=
  (pe_and ha hb).mono fun σ H Q ⟨env, S, r, q⟩ => LE.use ma r q (fun _ _ z => z) fun d1 S1 v1 H1 x1 r1 q1 ⟨c, e, k⟩ => by
    subst e
    cases q1
    refine ⟨c, rfl, ?_⟩
    cases c with
    | true => exact ⟨env, S1, r1, mb _ _ _ _ _ _ (QV.ext x1) (XW.ext x1) k⟩
    | false => exact (QV.ext x1 _ _ k).at r1.2.2 (.bl _)
theorem s_or {a b : Expr} {rest : List Expr} {pos : Pos} {wa wb : WE} (ha : PE X a (LE C W wa)) (hb : PE X (.BoolOp .Or (b :: rest) pos) (LE C W wb)) (ma : MonoE wa) (mb : MonoE wb) :
    PE X (.BoolOp .Or (a :: b :: rest) pos) (LE C W fun env S Q E => wa env S (fun x S1 => ∃ c, x = .bl c ∧ if c = true then Q (.bl true) S1 else wb env S1 Q E) E) :=
  (pe_or ha hb).mono fun σ H Q ⟨env, S, r, q⟩ => LE.use ma r q (fun _ _ z => z) fun d1 S1 v1 H1 x1 r1 q1 ⟨c, e, k⟩ => by
    subst e
    cases q1
    refine ⟨c, rfl, ?_⟩
    cases c with
    | false => exact ⟨env, S1, r1, mb _ _ _ _ _ _ (QV.ext x1) (XW.ext x1) k⟩
    | true => exact (QV.ext x1 _ _ k).at r1.2.2 (.bl _)
theorem s_anW {a b : Expr} {rest : List Expr} {pos : Pos} {wa wb : WE} (ha : PT X a (LT C W wa)) (hb : PW X (.BoolOp .And (b :: rest) pos) (LT C W wb)) (ma : MonoE wa) (mb : MonoE wb) :
    PW X (.BoolOp .And (a :: b :: rest) pos) (LT C W fun env S Q E => wa env S (fun x S1 => ∃ c, x = .bl c ∧ if c = true then wb env S1 Q E else Q (.bl false) S1) E) :=
  ⟨fun wh pins s σ H Q I ⟨env, S, r, q⟩ => (pw_and ha hb).run wh pins s σ H Q I (LT.use ma r q (fun _ _ z => z) fun d1 S1 ⟨c, e, k⟩ => ⟨c, e, fun H1 x1 r1 => by
    cases c with
    | true => exact ⟨env, S1, r1, mb _ _ _ _ _ _ (QB.ext x1) (XW.ext x1) k⟩
    | false =>
      obtain ⟨b, e2, k⟩ := k
      cases e2
      exact k H1 x1 r1.2.2⟩)⟩
theorem s_orW {a b : Expr} {rest : List Expr} {pos : Pos} {wa wb : WE} (ha : PT X a (LT C W wa)) (hb : PW X (.BoolOp .Or (b :: rest) pos) (LT C W wb)) (ma : MonoE wa) (mb : MonoE wb) :
    PW X (.BoolOp .Or (a :: b :: rest) pos) (LT C W fun env S Q E => wa env S (fun x S1 => ∃ c, x = .bl c ∧ if c = true then Q (.bl true) S1 else wb env S1 Q E) E) :=
  ⟨fun wh pins s σ H Q I ⟨env, S, r, q⟩ => (pw_or ha hb).run wh pins s σ H Q I (LT.use ma r q (fun _ _ z => z) fun d1 S1 ⟨c, e, k⟩ => ⟨c, e, fun H1 x1 r1 => by
    cases c with
    | false => exact ⟨env, S1, r1, mb _ _ _ _ _ _ (QB.ext x1) (XW.ext x1) k⟩
    | true =>
      obtain ⟨b, e2, k⟩ := k
      cases e2
      exact k H1 x1 r1.2.2⟩)⟩
theorem s_ife {t a b : Expr} {pos : Pos} {wt wa wb : WE} (ht : PT X t (LT C W wt)) (ha : PE X a (LE C W wa)) (hb : PE X b (LE C W wb)) (mt : MonoE wt) (ma : MonoE wa) (mb : MonoE wb) :
    PE X (.IfExp t a b pos) (LE C W fun env S Q E => wt env S (fun x S1 => ∃ c, x = .bl c ∧ if c = true then wa env S1 Q E else wb env S1 Q E) E) :=
  (pe_ifExp ht ha hb).mono fun σ H Q ⟨env, S, r, q⟩ => LT.use mt r q (fun _ _ z => z) fun d1 S1 ⟨c, e, k⟩ => ⟨c, e, fun H1 x1 r1 => by
    cases c with
    | true => exact ⟨env, S1, r1, ma _ _ _ _ _ _ (QV.ext x1) (XW.ext x1) k⟩
    | false => exact ⟨env, S1, r1, mb _ _ _ _ _ _ (QV.ext x1) (XW.ext x1) k⟩⟩
theorem s_nil : PA X [] (LA C W fun _ S Q _ => Q [] S) := pa_nil.mono fun σ H Q ⟨env, S, r, q⟩ => q [] H Ext.refl r.2.2 .nil
theorem s_cons {e : Expr} {es : List Expr} {we : WE} {wes : WA} (he : PE X e (LE C W we)) (hes : PA X es (LA C W wes)) (me : MonoE we) (mes : MonoA wes) (hs : starEach (e :: es) X.env = (false, eval e X.env) :: starEach es X.env) :
    PA X (e :: es) (LA C W fun env S Q E => we env S (fun d S1 => wes env S1 (fun ds S2 => Q (d :: ds) S2) E) E) :=
  (pa_cons he hes hs).mono fun σ H Q ⟨env, S, r, q⟩ => LE.use me r q (fun _ _ z => z) fun d1 S1 v1 H1 x1 r1 q1 k1 =>
    LA.use mes r1 k1 (XW.ext x1) fun ds S2 vs H2 x2 r2 q2 k2 => k2 _ _ (x1.trans x2) r2.2.2 (.cons (q1.ext x2) q2)
theorem s_tup {es : List Expr} {k : Nat} {pos : Pos} {wes : WA} (h : PA X es (LA C W wes)) (m : MonoA wes) : PE X (.Tuple es k pos) (LE C W fun env S Q E => wes env S (fun ds S1 => ds.length ≤ sizeLine ∧ Q (.tup ds) S1) E) :=
  (pe_tup h).mono fun σ H Q ⟨env, S, r, q⟩ => LA.use m r q (fun _ _ z => z) fun ds S1 vs H1 x1 r1 q1 k1 => ⟨q1.length ▸ k1.1, fun p hp => (QV.ext x1 _ _ k1.2).tup r1.2.2 q1 hp⟩
theorem s_lst {es : List Expr} {pos : Pos} {wes : WA} (h : PA X es (LA C W wes)) (m : MonoA wes) : PE X (.List es pos) (LE C W fun env S Q E => wes env S (fun ds S1 => ds.length ≤ sizeLine ∧ ∀ p, S1 p = none → Q (.ref p) (S1.upd p (.lst ds))) E) :=
  (pe_lst h).mono fun σ H Q ⟨env, S, r, q⟩ => LA.use m r q (fun _ _ z => z) fun ds S1 vs H1 x1 r1 q1 k1 => ⟨q1.length ▸ k1.1, fun p hp => QV.new (fun p hp => QV.ext x1 _ _ (k1.2 p hp)) r1.2.2 q1 hp⟩
theorem s_dnew {pos : Pos} : PE X (.Dict [] [] pos) (LE C W fun _ S Q _ => ∀ p, S p = none → Q (.ref p) (S.upd p (.dic []))) :=
  pe_dnewK.mono fun σ H Q ⟨env, S, r, q⟩ p hp => q p (r.2.2.none_of hp) _ _ (Ext.new hp) (r.2.2.new hp ⟨[], upd_same, .nil⟩) (.ref p)
include hK in
theorem s_ix {a b : Expr} {pos : Pos} {wa wb : WE} (hu : X.A.units + 64 < cLine) (ha : PE X a (LE C W wa)) (hb : PE X b (LE C W wb)) (ma : MonoE wa) (mb : MonoE wb) (hs : PlainIx b) :
    PE X (.Subscript a b pos) (LE C W fun env S Q E => wa env S (fun x S1 => wb env S1 (fun y S2 => wpIx x y S2 fun d => Q d S2) E) E) :=
  (pe_ix (ixr hK hu) ha hb hs).mono fun σ H Q ⟨env, S, r, q⟩ => LE.use ma r q (fun _ _ z => z) fun d1 S1 v1 H1 x1 r1 q1 k1 =>
    LE.use mb r1 k1 (XW.ext x1) fun d2 S2 v2 H2 x2 r2 q2 k2 => ⟨d1, d2, S2, q1.ext x2, q2, r2.2.2, wpIx_mono (fun c z => z.ext (x1.trans x2)) k2⟩
def LO (C : Cn) (W : WX) (w : Env → Store → (Option Int → Store → Prop) → PX → Prop) : TO := fun σ H Q => ∃ env S, Rl C σ H env S ∧ w env S (fun o S' => ∀ H', Ext C.K H H' → SOk C H' S' → Q o H') (XW C W σ H)
theorem s_noO : PO X none (LO C W fun _ S Q _ => Q none S) := ⟨fun pins s σ H Q I ⟨env, S, r, q⟩ => po_none.run pins s σ H Q I (q H Ext.refl r.2.2)⟩
theorem s_someO {e : Expr} {we : WE} (he : PE X e (LE C W we)) (me : MonoE we) : PO X (some e) (LO C W fun env S Q E => we env S (fun d S1 => ∃ i, d = .int i ∧ Q (some i) S1) E) :=
  ⟨fun pins s σ H Q I ⟨env, S, r, q⟩ => (po_some he).run pins s σ H Q I (LE.use me r q (fun _ _ z => z) fun d S1 v1 H1 x1 r1 q1 ⟨i, e, k⟩ => by
    subst e
    cases q1
    exact ⟨i, rfl, k H1 x1 r1.2.2⟩)⟩
include hK in
theorem s_slc {a : Expr} {lo hi : Option Expr} {pos p2 : Pos} {wa : WE} {wl wh : Env → Store → (Option Int → Store → Prop) → PX → Prop} (hu : X.A.units + 64 < cLine) (ha : PE X a (LE C W wa)) (hl : PO X lo (LO C W wl)) (hh : PO X hi (LO C W wh)) (ma : MonoE wa)
    (ml : ∀ env S Q Q' E E', (∀ d S, Q d S → Q' d S) → (∀ c S, E c S → E' c S) → wl env S Q E → wl env S Q' E') (mh : ∀ env S Q Q' E E', (∀ d S, Q d S → Q' d S) → (∀ c S, E c S → E' c S) → wh env S Q E → wh env S Q' E') :
    PE X (.Subscript a (.Slice lo hi none p2) pos) (LE C W fun env S Q E => wa env S (fun x S1 => wl env S1 (fun l S2 => wh env S2 (fun h S3 => wpSl x l h S3 Q) E) E) E) :=
  (pe_slice (slr hK hu C rfl) ha hl hh).mono fun σ H Q ⟨env, S, r, q⟩ => LE.use ma r q (fun _ _ z => z) fun d1 S1 v1 H1 x1 r1 q1 k1 =>
    ⟨env, S1, r1, ml _ _ _ _ _ _ (fun o S2 k2 H2 x2 ok2 => ⟨env, S2, r1.ext x2 ok2, mh _ _ _ _ _ _ (fun o' S3 k3 H3 x3 ok3 => ⟨d1, S3, q1.ext (x2.trans x3), ok3, wpSl_mono (QV.ext (x1.trans (x2.trans x3))) k3⟩) (XW.ext (x1.trans x2)) k2⟩) (XW.ext x1) k1⟩
omit hK in
theorem vals_pick {xs : List V} {us : List Value} (r : L2.Vals xs us) : ∀ ks : List Nat, L2.Vals (ks.filterMap fun k => xs[k]?) (ks.filterMap fun k => us[k]?)
  | [] => .nil
  | k :: ks => by
    have ih := vals_pick r ks
    cases e : xs[k]? with
    | none => rw [List.filterMap_cons_none e, List.filterMap_cons_none (r.none_of e)]; exact ih
    | some x =>
      obtain ⟨u, eu, ru⟩ := r.get e
      rw [List.filterMap_cons_some e, List.filterMap_cons_some eu]
      exact .cons ru ih
omit hK in
theorem rvs_pick {H : Hp} {vs : List V} {ds : List D} (r : RVs C.K H vs ds) : ∀ ks : List Nat, RVs C.K H (ks.filterMap fun k => vs[k]?) (ks.filterMap fun k => ds[k]?)
  | [] => .nil
  | k :: ks => by
    have ih := rvs_pick r ks
    cases e : vs[k]? with
    | none =>
      have e2 : ds[k]? = none := List.getElem?_eq_none (by rw [← r.length]; exact List.getElem?_eq_none_iff.mp e)
      rw [List.filterMap_cons_none e, List.filterMap_cons_none e2]; exact ih
    | some x =>
      obtain ⟨d, ed, rd⟩ := r.get' e
      rw [List.filterMap_cons_some e, List.filterMap_cons_some ed]
      exact .cons rd ih
omit hK in
theorem pe_slice3 {e st : Expr} {lo hi : Option Expr} {te : TE} {tl th ts : TO} {p2 pos : Pos} (he : PE X e te) (hl : PO X lo tl) (hu : PO X hi th) (hs : PO X (some st) ts) :
    PE X (.Subscript e (.Slice lo hi (some st) p2) pos) (fun σ H Q => te σ H fun x H1 => tl σ H1 fun l H2 => th σ H2 fun u H3 => ts σ H3 fun t H4 => ∃ a xs, x = .ref a ∧ SqL X.K H4 a xs ∧ t ≠ some 0 ∧ ∀ p, H4 p = none → Q (.ref p) (L2.upd H4 p (.lst (stpL l u t xs)))) := by
  refine ⟨fun pins s σ H Q I h => ?_⟩
  refine Subscript_ (thn (he.run pins s σ H _ I h) fun v s1 ⟨x, H1, I1, r1, q1⟩ => ?_)
  refine wpAny_Slice (thn (hl.run pins s1 σ H1 _ I1 q1) fun vl s2 ⟨l, H2, I2, pl, q2⟩ => thn (hu.run pins s2 σ H2 _ I2 q2) fun vu s3 ⟨u, H3, I3, pu, q3⟩ => thn (hs.run pins s3 σ H3 _ I3 q3) fun vk s4 ⟨t, H4, I4, pk, q4⟩ => ?_)
  obtain ⟨a, xs, ex, hx, h0, q⟩ := q4
  subst ex
  cases r1
  have I5 : L2.Inv X pins σ H4 { s4 with heap := s4.heap.push { cls := .type "slice", data := .fields #[vl, vu, vk] } } := I4.kept (t' := s4.toks) fun b ob q => Heap.get?_push_of_some _ q
  obtain ⟨its, r, ht, hz⟩ := I5.list hx
  have hlen := r.length
  show wpAny (model X.prog X.w) X.A (subscriptTail e (.Slice lo hi (some st) p2) (.ref a) (.ref s4.heap.objs.size)) (EP X pins σ Q) X.xe { s4 with heap := s4.heap.push { cls := .type "slice", data := .fields #[vl, vu, vk] } }
  refine tail_any (ops := [.ref a, .ref s4.heap.objs.size]) ht.isList.typeIs (PySem.slot_list_getitem.lookup) ?_ (by with_unfolding_all rfl)
  have szT : its.toArray.size = xs.length := by rw [List.size_toArray, hlen]
  refine wpAny_getItem_list_slice ht.isList (Heap.IsSliceOf.new _ vl vu vk) pl pu pk h0 ?_ (by rw [szT]; exact hz)
  have e1 : slicePick its.toArray l u t = (stpL l u t its).toArray := by
    unfold slicePick stpL
    rw [List.size_toArray]
    simp only [List.getElem?_toArray]
  have e2 : stpL l u t its = (sliceRange (sliceBounds l u t xs.length).1 (sliceBounds l u t xs.length).2.1 (sliceBounds l u t xs.length).2.2).filterMap fun k => its[k]? := by
    unfold stpL
    rw [hlen]
  have e3 := slicePick_size_le its.toArray l u t
  rw [e1, List.size_toArray, szT] at e3
  have r2 := vals_pick r (sliceRange (sliceBounds l u t xs.length).1 (sliceBounds l u t xs.length).2.1 (sliceBounds l u t xs.length).2.2)
  rw [← e2] at r2
  rw [e1]
  refine ⟨.ref _, _, I5.laid (t' := s4.toks) (o := .lst (stpL l u t xs)) (fun b ob q => Heap.get?_push_of_some _ q) (Nat.le_refl _) ?_, rfl, q _ (I5.hok.fresh (Nat.le_refl _))⟩
  exact ⟨by
    have := r2.length
    show (stpL l u t xs).length ≤ _
    unfold stpL
    omega, _, 0, r2, Heap.get?_push_size _ rfl⟩
include hK in
theorem s_slc3 {a st : Expr} {lo hi : Option Expr} {pos p2 : Pos} {wa : WE} {wl wh ws : Env → Store → (Option Int → Store → Prop) → PX → Prop} (ha : PE X a (LE C W wa)) (hl : PO X lo (LO C W wl)) (hh : PO X hi (LO C W wh)) (hs : PO X (some st) (LO C W ws)) (ma : MonoE wa)
    (ml : ∀ env S Q Q' E E', (∀ d S, Q d S → Q' d S) → (∀ c S, E c S → E' c S) → wl env S Q E → wl env S Q' E') (mh : ∀ env S Q Q' E E', (∀ d S, Q d S → Q' d S) → (∀ c S, E c S → E' c S) → wh env S Q E → wh env S Q' E') (ms : ∀ env S Q Q' E E', (∀ d S, Q d S → Q' d S) → (∀ c S, E c S → E' c S) → ws env S Q E → ws env S Q' E') :
    PE X (.Subscript a (.Slice lo hi (some st) p2) pos) (LE C W fun env S Q E => wa env S (fun x S1 => wl env S1 (fun l S2 => wh env S2 (fun h S3 => ws env S3 (fun t S4 => ∃ xs, seqRef S4 x = some xs ∧ t ≠ some 0 ∧ ∀ p, S4 p = none → Q (.ref p) (S4.upd p (.lst (stpL l h t xs)))) E) E) E) E) :=
  (pe_slice3 ha hl hh hs).mono fun σ H Q ⟨env, S, r, q⟩ => LE.use ma r q (fun _ _ z => z) fun d1 S1 v1 H1 x1 r1 q1 k1 =>
    ⟨env, S1, r1, ml _ _ _ _ _ _ (fun o S2 k2 H2 x2 ok2 => ⟨env, S2, r1.ext x2 ok2, mh _ _ _ _ _ _ (fun o' S3 k3 H3 x3 ok3 => ⟨env, S3, (r1.ext x2 ok2).ext x3 ok3, ms _ _ _ _ _ _ (fun o2 S4 ⟨xs, e, h0, k4⟩ H4 x4 ok4 => by
      have x14 := x2.trans (x3.trans x4)
      have q1 := q1.ext x14
      have pickR : ∀ {vs : List V}, RVs C.K H4 vs xs → RVs C.K H4 (stpL o o' o2 vs) (stpL o o' o2 xs) := fun {vs} rr => by
        unfold stpL
        rw [rr.length]
        exact rvs_pick rr _
      have fin : ∀ (p : Addr) (vs : List V), SqL C.K H4 p vs → RVs C.K H4 vs xs → ∃ a xs', V.ref p = .ref a ∧ SqL X.K H4 a xs' ∧ o2 ≠ some 0 ∧ ∀ p, H4 p = none → Q (.ref p) (L2.upd H4 p (.lst (stpL o o' o2 xs'))) := fun p vs h rr =>
        ⟨p, vs, rfl, hK ▸ h, h0, fun l hl => QV.new (fun p hp => QV.ext (x1.trans x14) _ _ (k4 p hp)) ok4 (pickR rr) hl⟩
      cases q1 with
      | rl t rr => cases e; exact fin _ _ t.sq rr
      | ref a =>
        simp only [seqRef] at e
        cases e1 : S4 a with
        | none => rw [e1] at e; cases e
        | some c =>
          rw [e1] at e
          cases c with
          | lst ys =>
            cases e
            obtain ⟨vs, e2, q⟩ := ok4.lst e1
            exact fin _ _ (.of e2) q
          | dic _ => cases e
          | ins _ _ => cases e
          | fz _ => cases e
      | _ => cases e) (XW.ext (x1.trans (x2.trans x3))) k3⟩) (XW.ext (x1.trans x2)) k2⟩) (XW.ext x1) k1⟩
end
end SW
/-! SW, part G: fields, calls, methods. -/
namespace SW
open PySem PySem.Spec PyProof.Rows L2
/-- what is known of classes and names -/
structure Fcts (C : Cn) : Prop where
  inj : ∀ f g, C.isF f → C.isF g → C.nm f = C.nm g → f = g
  cls : ∀ c, C.isC c → Cls C.K (C.ca c)
  noat : ∀ c f, C.isC c → C.isF f → NoAttr C.K (C.ca c) (C.nm f)
section
variable {C : Cn} {H : Hp} (F : Fcts C)
include F
theorem RFs.get {f : Nat} (hf : C.isF f) : ∀ {l : List (Str × V)} {m : List (Nat × D)} {d : D}, RFs C H l m → m.lookup f = some d → ∃ v, l.lookup (C.nm f) = some v ∧ RV C.K H v d
  | _, _, _, .nil, h => by cases h
  | _, _, d, .cons (f := g) (v := v) hg q r, h => by
    rw [List.lookup_cons] at h ⊢
    by_cases e : f = g
    · subst e
      rw [beq_self_eq_true] at h ⊢
      cases h
      exact ⟨v, rfl, q⟩
    · rw [beq_eq_false_iff_ne.mpr e] at h
      rw [beq_eq_false_iff_ne.mpr fun z => e (F.inj _ _ hf hg z)]
      exact RFs.get hf r h
theorem RFs.put {f : Nat} {v : V} {d : D} (hf : C.isF f) (q : RV C.K H v d) : ∀ {l : List (Str × V)} {m : List (Nat × D)}, RFs C H l m → RFs C H (putF (C.nm f) v l) (putN f d m)
  | _, _, .nil => .cons hf q .nil
  | _, _, .cons (f := g) (v := u) hg p r => by
    unfold putF putN
    by_cases e : f = g
    · subst e
      rw [if_pos rfl, if_pos rfl]
      exact .cons hg q r
    · rw [if_neg e, if_neg fun z => e (F.inj _ _ hf hg z.symm)]
      exact .cons hg p (RFs.put hf q r)
theorem RFs.noM {c : Nat} {m : Str} {g : Addr} (hc : C.isC c) (M : Meth C.K (C.ca c) m g) : ∀ {l : List (Str × V)} {k : List (Nat × D)}, RFs C H l k → l.lookup m = none
  | _, _, .nil => rfl
  | _, _, .cons (f := f) hf q r => by
    have ne : m ≠ C.nm f := fun z => by
      have h1 := M.at_
      have h2 : PySem.W.findIn C.K (.ref (C.ca c)) (C.nm f) = some none := F.noat c f hc hf
      rw [z, h2] at h1
      cases h1
    rw [List.lookup_cons, beq_eq_false_iff_ne.mpr ne]
    exact RFs.noM hc M r
end
theorem RFs.length {C : Cn} {H : Hp} : ∀ {l : List (Str × V)} {m : List (Nat × D)}, RFs C H l m → l.length = m.length
  | _, _, .nil => rfl
  | _, _, .cons _ _ r => congrArg (· + 1) r.length
/-- a receiver that is no super() -/
def okBase : Expr → Bool
  | .Call (.Name _ _) [] [] _ => false
  | _ => true
theorem base_of {o : Expr} {n : Str} {env : PySem.Env} {w : Sem Value} (h : okBase o = true) : attributeBase o n env w = w := by
  unfold attributeBase
  split
  · cases h
  · rfl
def notStar : Expr → Bool
  | .Starred _ _ => false
  | _ => true
theorem star1 {e : Expr} {es : List Expr} {env : PySem.Env} (h : notStar e = true) : starEach (e :: es) env = (false, eval e env) :: starEach es env := by
  cases e <;> first | rfl | cases h
theorem starAll {env : PySem.Env} {pos : Pos} : ∀ {es : List Expr}, es.all notStar = true → (backTo pos (starEach es env)).any (·.1) = false
  | [], _ => rfl
  | e :: es, h => by
    rw [List.all_cons, Bool.and_eq_true] at h
    rw [star1 h.1]
    show (false || (backTo pos (starEach es env)).any (·.1)) = false
    rw [starAll h.2]
    rfl
theorem starAll' {env : PySem.Env} {pos : Pos} : ∀ {es : List Expr}, es.all notStar = true → (backTo pos (starEach es env)).all (!·.1) = true
  | [], _ => rfl
  | e :: es, h => by
    rw [List.all_cons, Bool.and_eq_true] at h
    rw [star1 h.1]
    show (!false && (backTo pos (starEach es env)).all (!·.1)) = true
    rw [starAll' h.2]
    rfl
section
variable {X : Cx} {C : Cn} {W : WX} (hK : X.K = C.K)
include hK in
theorem s_fld {a : Expr} {f : Nat} {fn : Str} {pos : Pos} {wa : WE} (F : Fcts C) (hn : C.nm f = fn) (hf : C.isF f) (ha : PE X a (LE C W wa)) (ma : MonoE wa) (hb : okBase a = true) :
    PE X (.Attribute a fn pos) (LE C W fun env S Q E => wa env S (fun x S1 => ∃ p c fs d, x = .ref p ∧ S1 p = some (.ins c fs) ∧ fs.lookup f = some d ∧ Q d S1) E) := by
  subst hn
  refine (pe_fld ha (base_of hb)).mono fun σ H Q ⟨env, S, r, q⟩ => LE.use ma r q (fun _ _ z => z) fun d1 S1 v1 H1 x1 r1 q1 ⟨p, c, fs, d, e, e1, e2, k⟩ => ?_
  subst e
  cases q1
  obtain ⟨dx, fs', e3, q3, hc⟩ := r1.2.2.ins e1
  obtain ⟨v, e4, q4⟩ := RFs.get F hf q3 e2
  exact ⟨p, C.ca c, dx, fs', v, rfl, e3, hK ▸ F.cls c hc, hK ▸ F.noat c f hc hf, e4, (QV.ext x1 _ _ k).at r1.2.2 q4⟩
/-- a call of the thing at a keeps to its meaning -/
def CallOk (X : Cx) (C : Cn) (W : WX) (a : Addr) (w : List D → Store → PQ → PX → Prop) : Prop :=
  ∀ (pins : List (Addr × Obj)) (σ : St2) (H : Hp) (s : Shared) (us : List Value) (vs : List V) (ds : List D) (S : Store) (Q : VK), L2.Inv X pins σ H s → Vals vs us → RVs C.K H vs ds → SOk C H S →
    w ds S (QV C H Q) (XW C W σ H) → wpAny (model X.prog X.w) X.A (call (.ref a) us) (EP X pins σ Q) X.xe s
def MonoW (w : List D → Store → PQ → PX → Prop) : Prop := ∀ ds S Q Q' E E', (∀ d S, Q d S → Q' d S) → (∀ c S, E c S → E' c S) → w ds S Q E → w ds S Q' E'
theorem s_call0 {x : Str} {a : Addr} {p pos : Pos} {w : List D → Store → PQ → PX → Prop} (hg : Gl X x) (hm : X.mg x = some (.ref a)) (hk : PySem.W.keepIn X.K (.ref a) = true) (ho : CallOk X C W a w) (hdb : (x == ("__debug__" : Str)) = false) :
    PE X (.Call (.Name x p) [] [] pos) (LE C W fun _ S Q E => w [] S Q E) := by
  refine ⟨fun pins s σ H Q I ⟨env, S, r, q⟩ => ?_⟩
  refine wpAny_Call_Name_kw (ld_glob I hg hm ?_ hdb)
  exact PySem.W.callWith_K0 I.kIn hk (ho pins σ H s [] [] [] S Q I .nil .nil r.2.2 q)
theorem s_call {x : Str} {a : Addr} {p pos : Pos} {e : Expr} {es : List Expr} {wes : WA} {w : List D → Store → PQ → PX → Prop} (hg : Gl X x) (hm : X.mg x = some (.ref a)) (hk : PySem.W.keepIn X.K (.ref a) = true) (ho : CallOk X C W a w) (mw : MonoW w)
    (ha : PA X (e :: es) (LA C W wes)) (ma : MonoA wes) (hs : (e :: es).all notStar = true) (hdb : (x == ("__debug__" : Str)) = false) :
    PE X (.Call (.Name x p) (e :: es) [] pos) (LE C W fun env S Q E => wes env S (fun ds S1 => w ds S1 Q E) E) := by
  refine ⟨fun pins s σ H Q I ⟨env, S, r, q⟩ => ?_⟩
  refine wpAny_Call_Name_kw (ld_glob I hg hm ?_ hdb)
  have hq : LA C W wes σ H (fun vs H1 => ∃ ds S1, RVs C.K H1 vs ds ∧ SOk C H1 S1 ∧ w ds S1 (QV C H1 Q) (XW C W σ H1)) :=
    LA.use ma r q (fun _ _ z => z) fun ds S1 vs H1 x1 r1 q1 k1 => ⟨ds, S1, q1, r1.2.2, mw _ _ _ _ _ _ (QV.ext x1) (XW.ext x1) k1⟩
  have hA := ha.run pos pins s σ H _ I hq
  rw [List.all_cons, Bool.and_eq_true] at hs
  refine PySem.W.callWith_K (h₀ := X.base) I.ok.mod.kin hk (thn hA fun us s1 ⟨vs, H1, I1, rv, ds, S1, q1, ok, k⟩ => ⟨I1.kIn, ?_⟩) (star1 hs.1) (starAll hs.2)
  exact ho pins σ H1 s1 us vs ds S1 Q I1 rv q1 ok k
theorem mform {es : List Expr} {env : PySem.Env} {pos : Pos} (hs : es.all notStar = true) (hl : es.length < 30) : methodCallForm (es.length + ([] : List Keyword).length) (backTo pos (starEach es env)) (backToKw pos (keywordEach [] env)) = true := by
  unfold methodCallForm
  rw [starAll' hs]
  show (true && true && decide (es.length + 0 + 0 < 30)) = true
  rw [decide_eq_true (by omega)]
  rfl
theorem mcall_eval {o : Expr} {m : Str} {apos pos : Pos} {es : List Expr} {env : PySem.Env} (hb : okBase o = true) (hs : es.all notStar = true) (hl : es.length < 30) (hln : (apos.endLine == pos.line) = true) :
    eval (.Call (.Attribute o m apos) es [] pos) env = (do
      let ov ← eval o env
      standAt apos.atName
      let (f, first) ← holding [ov] (getMethod ov m (plainOf o env))
      callWith pos f first (backTo pos (starEach es env)) (backToKw pos (keywordEach [] env))) := by
  rw [PySem.arm_eval_Call, base_of hb]
  congr 1
  funext ov
  congr 1
  funext _
  exact mcall_line (mform hs hl) hln
/-- the methods of own classes -/
def MethOk (X : Cx) (C : Cn) (W : WX) (P : Prg) (R : Rec) (m : Nat) : Prop := ∀ c f, P.meth c m = some f → ∃ a, Meth X.K (C.ca c) (C.nm m) a ∧ CallOk X C W a fun ds S Q E => R f ds S Q E
include hK in
theorem s_meth {o : Expr} {m : Nat} {mn : Str} {apos pos : Pos} {es : List Expr} {wo : WE} {wes : WA} {P : Prg} {R : Rec} (F : Fcts C) (hn : C.nm m = mn) (mR : MonoR R) (M : MethOk X C W P R m) (he : PE X o (LE C W wo)) (mo : MonoE wo)
    (ha : PA X es (LA C W wes)) (ma : MonoA wes) (hnil : es = [] → wes = fun _ S Q _ => Q [] S) (hb : okBase o = true) (hs : es.all notStar = true) (hl : es.length < 30) (hln : (apos.endLine == pos.line) = true) :
    PE X (.Call (.Attribute o mn apos) es [] pos) (LE C W fun env S Q E => wo env S (fun x S1 => ∃ p c fs f, x = .ref p ∧ S1 p = some (.ins c fs) ∧ P.meth c m = some f ∧ wes env S1 (fun ds S2 => R f (.ref p :: ds) S2 Q E) E) E) := by
  subst hn
  refine ⟨fun pins s σ H Q I ⟨env, S, r, q⟩ => ?_⟩
  refine PySem.W.methodCall_KW (pl := plainOf o X.env) ?_ (mcall_eval hb hs hl hln)
  refine thn (he.run pins s σ H (fun x H1 => ∃ p c fs f S1, x = .ref p ∧ Ext C.K H H1 ∧ Rl C σ H1 env S1 ∧ S1 p = some (.ins c fs) ∧ P.meth c m = some f ∧ wes env S1 (fun ds S2 => R f (.ref p :: ds) S2 (QV C H1 Q) (XW C W σ H1)) (XW C W σ H1)) I
    (LE.use mo r q (fun _ _ z => z) fun d1 S1 v1 H1 x1 r1 q1 ⟨p, c, fs, f, e, e1, e2, k⟩ => by
      subst e
      cases q1
      exact ⟨p, c, fs, f, S1, rfl, x1, r1, e1, e2, ma _ _ _ _ _ _ (fun ds S2 z => mR _ _ _ _ _ _ _ (QV.ext x1) (XW.ext x1) z) (XW.ext x1) k⟩)) fun u s1 ⟨x, H1, I1, rx, p, c, fs, f, S1, ex, x1, r1, e1, e2, k⟩ => ?_
  subst ex
  obtain rfl : u = Value.ref p := rx
  obtain ⟨dx, fs', e3, q3, hc⟩ := r1.2.2.ins e1
  obtain ⟨g, hM, hR⟩ := M c f e2
  refine getmeth_ok I1 e3 (hK ▸ F.cls c hc) hM (RFs.noM F hc (hK ▸ hM) q3) ?_
  cases es with
  | nil =>
    rw [hnil rfl] at k
    exact PySem.W.callWith_K0 (first := [.ref p]) I1.kIn hM.kp (hR pins σ H1 s1 [.ref p] [.ref p] [.ref p] S1 Q I1 (.cons rfl .nil) (.cons (.ref p) .nil) r1.2.2 k)
  | cons e es =>
    have hA := ha.run pos pins s1 σ H1 (fun vs H2 => ∃ ds S2, RVs C.K H2 vs ds ∧ SOk C H2 S2 ∧ R f (.ref p :: ds) S2 (QV C H2 Q) (XW C W σ H2)) I1
      (LA.use ma r1 k (fun _ _ z => z) fun ds S2 vs H2 x2 r2 q2 k2 => ⟨ds, S2, q2, r2.2.2, mR _ _ _ _ _ _ _ (QV.ext x2) (XW.ext x2) k2⟩)
    rw [List.all_cons, Bool.and_eq_true] at hs
    refine PySem.W.callWith_K (first := [.ref p]) (h₀ := X.base) I.ok.mod.kin hM.kp (thn hA fun us s2 ⟨vs, H2, I2, rv, ds, S2, q2, ok, k2⟩ => ⟨I2.kIn, ?_⟩) (star1 hs.1) (starAll hs.2)
    exact hR pins σ H2 s2 (.ref p :: us) (.ref p :: vs) (.ref p :: ds) S2 Q I2 (.cons rfl rv) (.cons (.ref p) q2) ok k2
/-! ### built-in functions -/
include hK in
theorem s_bltF {x : Str} {id : String} {b : Blt} {p pos : Pos} {e : Expr} {es : List Expr} {wes : WA} (hc : X.calm = true) (hu : X.A.units + 64 < cLine) (hid : bltVal b = .builtin id) (hg : Gl X x) (hm : X.mg x = none) (hv : bootBuiltins x = some (.builtin id))
    (ha : PA X (e :: es) (LA C W wes)) (ma : MonoA wes) (hs : (e :: es).all notStar = true) (hn : x ≠ "__name__") (hdb : (x == ("__debug__" : Str)) = false) :
    PE X (.Call (.Name x p) (e :: es) [] pos) (LE C W fun env S Q E => wes env S (fun ds S1 => wpBlt b ds S1 Q) E) := by
  have hR := blt_rule hK hc hu b
  rw [hid] at hR
  rw [List.all_cons, Bool.and_eq_true] at hs
  exact (pe_callB hR hg hm hv ha hn hdb (star1 hs.1) (starAll hs.2)).mono fun σ H Q ⟨env, S, r, q⟩ =>
    LA.use ma r q (fun _ _ z => z) fun ds S1 vs H1 x1 r1 q1 k1 => ⟨ds, S1, q1, r1.2.2, wpBlt_mono (QV.ext x1) k1⟩
include hK in
theorem s_bltT {x : Str} {id : String} {b : Blt} {p pos : Pos} {e : Expr} {es : List Expr} {wes : WA} (hc : X.calm = true) (hu : X.A.units + 64 < cLine) (hid : bltVal b = .type id) (hg : Gl X x) (hm : X.mg x = none) (hv : bootBuiltins x = some (.type id))
    (ha : PA X (e :: es) (LA C W wes)) (ma : MonoA wes) (hs : (e :: es).all notStar = true) (hn : x ≠ "__name__") (hdb : (x == ("__debug__" : Str)) = false) :
    PE X (.Call (.Name x p) (e :: es) [] pos) (LE C W fun env S Q E => wes env S (fun ds S1 => wpBlt b ds S1 Q) E) := by
  have hR := blt_rule hK hc hu b
  rw [hid] at hR
  rw [List.all_cons, Bool.and_eq_true] at hs
  exact (pe_callTy hR hg hm hv ha hn hdb (star1 hs.1) (starAll hs.2)).mono fun σ H Q ⟨env, S, r, q⟩ =>
    LA.use ma r q (fun _ _ z => z) fun ds S1 vs H1 x1 r1 q1 k1 => ⟨ds, S1, q1, r1.2.2, wpBlt_mono (QV.ext x1) k1⟩
/-! ### isinstance -/
/-- a list of written types as arguments -/
def PTys (X : Cx) (es : List Expr) (vs : List V) : Prop := PA X es fun _ H Q => Q vs H
include hK in
theorem s_isi1 {p pos : Pos} {a t : Expr} {wa : WE} {ty : Ty} {n : String} (hn : ty.nm = some n) (hg : Gl X "isinstance") (hm : X.mg "isinstance" = none) (ha : PE X a (LE C W wa)) (ma : MonoE wa) (ht : PE X t (tC (.ty n))) (h1 : notStar a = true) (h2 : notStar t = true) :
    PE X (.Call (.Name "isinstance" p) [a, t] [] pos) (LE C W fun env S Q E => wa env S (fun x S1 => ∃ k b, kdOf S1 x = some k ∧ isTys k [ty] = some b ∧ Q (.bl b) S1) E) := by
  have hs : ∀ z : Expr, notStar z = true → ([z].all notStar) = true := fun z hz => by rw [List.all_cons, hz]; rfl
  refine (pe_callB call_isi hg hm (by decide +kernel) (pa_cons ha (pa_cons ht pa_nil (star1 h2)) (star1 h1)) (by decide) (by decide) (star1 h1) (starAll (hs t h2))).mono fun σ H Q ⟨env, S, r, q⟩ =>
    LE.use ma r q (fun _ _ z => z) fun d1 S1 v1 H1 x1 r1 q1 ⟨k, b, e1, e2, z⟩ => ?_
  have e3 : kdTy k ty = some b := by
    unfold isTys at e2
    cases e : kdTy k ty with
    | none => rw [e] at e2; cases e2
    | some b' =>
      rw [e] at e2
      have e2 : some (b' || false) = some b := e2
      rw [Bool.or_false] at e2
      exact e2
  exact ⟨v1, .ty n, _, _, b, rfl, .ty n, hK ▸ kd_ty r1.2.2 q1 e1, kit_ty (kd_kit k ty b n e3 hn), (QV.ext x1 _ _ z).at r1.2.2 (.bl b)⟩
include hK in
theorem s_isiN {p pos tpos : Pos} {kk : Nat} {a : Expr} {ts : List Expr} {wa : WE} {tys : List Ty} {vs : List V} (hn : tysV tys = some vs) (hl : vs.length ≤ sizeLine) (hg : Gl X "isinstance") (hm : X.mg "isinstance" = none) (ha : PE X a (LE C W wa)) (ma : MonoE wa) (ht : PTys X ts vs) (h1 : notStar a = true) :
    PE X (.Call (.Name "isinstance" p) [a, .Tuple ts kk tpos] [] pos) (LE C W fun env S Q E => wa env S (fun x S1 => ∃ k b, kdOf S1 x = some k ∧ isTys k tys = some b ∧ Q (.bl b) S1) E) := by
  refine (pe_callB call_isiT hg hm (by decide +kernel) (pa_cons ha (pa_cons (pe_tup ht) pa_nil rfl) (star1 h1)) (by decide) (by decide) (star1 h1) rfl).mono fun σ H Q ⟨env, S, r, q⟩ =>
    LE.use ma r q (fun _ _ z => z) fun d1 S1 v1 H1 x1 r1 q1 ⟨k, b, e1, e2, z⟩ => ?_
  refine ⟨hl, fun t ht' => ?_⟩
  obtain ⟨us, pr, ka⟩ := tysV_ok (K := X.K) hn e2
  have x2 : Ext C.K H1 (L2.upd H1 t (.tup vs)) := Ext.new ht'
  have ok2 := r1.2.2.new0 (o := .tup vs) ht'
  exact ⟨v1, t, vs, _, us, b, rfl, upd_same, pr, hK ▸ kd_ty ok2 (q1.ext x2) e1, ka, (QV.ext (x1.trans x2) _ _ z).at ok2 (.bl b)⟩
end
end SW
/-! SW, part H: methods of built-in types, what is walked, comprehensions. -/
namespace SW
open PySem PySem.Spec PyProof.Rows L2
def bmtNm : Bmt → Str
  | .append => "append"
  | .pop => "pop"
  | .get => "get"
  | .join => "join"
  | .split => "split"
  | .extend => "extend"
  | .clear => "clear"
  | .index => "index"
  | .setdefault => "setdefault"
  | .insert => "insert"
  | .reverse => "reverse"
  | .count => "count"
  | .remove => "remove"
  | .startswith => "startswith"
  | .items => "items"
theorem bmt_slot {k : Kd} {m : Bmt} {id : String} (h : bmtId k m = some id) : PlainAttrs k.nm ∧ Slot k.nm (bmtNm m) id ∧ typeOf (.builtin id) = pure (.type "method_descriptor") := by
  cases k <;> cases m <;> cases h
  · exact ⟨F.plainAttrs_str, F.slot_str_join, F.type_str_join⟩
  · exact ⟨F.plainAttrs_str, F.slot_str_split, F.type_str_split⟩
  · exact ⟨F.plainAttrs_str, F.slot_str_startswith, F.type_str_startswith⟩
  · exact ⟨F.plainAttrs_list, F.slot_list_append, F.type_list_append⟩
  · exact ⟨F.plainAttrs_list, F.slot_list_pop, F.type_list_pop⟩
  · exact ⟨F.plainAttrs_list, F.slot_list_extend, F.type_list_extend⟩
  · exact ⟨F.plainAttrs_list, F.slot_list_clear, F.type_list_clear⟩
  · exact ⟨F.plainAttrs_list, F.slot_list_index, F.type_list_index⟩
  · exact ⟨F.plainAttrs_list, F.slot_list_insert, F.type_list_insert⟩
  · exact ⟨F.plainAttrs_list, F.slot_list_reverse, F.type_list_reverse⟩
  · exact ⟨F.plainAttrs_list, F.slot_list_count, F.type_list_count⟩
  · exact ⟨F.plainAttrs_list, F.slot_list_remove, F.type_list_remove⟩
  · exact ⟨F.plainAttrs_dict, F.slot_dict_pop, F.type_dict_pop⟩
  · exact ⟨F.plainAttrs_dict, F.slot_dict_get, F.type_dict_get⟩
  · exact ⟨F.plainAttrs_dict, F.slot_dict_setdefault, F.type_dict_setdefault⟩
def RMD (C : Cn) (k : Kd) (m : Bmt) : V → List V → Hp → VK → Prop := fun x vs H Q => ∃ dx ds S, RV C.K H x dx ∧ RVs C.K H vs ds ∧ SOk C H S ∧ wpBmt k m dx ds S (QV C H Q)
theorem RVs.eraseIdx {K : PySem.W.Frag} {H : Hp} : ∀ {vs : List V} {ds : List D} (n : Nat), RVs K H vs ds → RVs K H (vs.eraseIdx n) (ds.eraseIdx n)
  | _, _, _, .nil => .nil
  | _, _, 0, .cons h r => r
  | _, _, n + 1, .cons h r => .cons h (r.eraseIdx n)
theorem RVs.dropLast {K : PySem.W.Frag} {H : Hp} {vs : List V} {ds : List D} (r : RVs K H vs ds) : RVs K H vs.dropLast ds.dropLast := by
  rw [List.dropLast_eq_take, List.dropLast_eq_take, r.length]
  exact r.take _
theorem RKs.drop {C : Cn} {H : Hp} {k : Key} : ∀ {l : List (Key × V)} {m : List (D × D)}, RKs C H l m → RKs C H (L2.dropK l k) (delK (kD k) m)
  | _, _, .nil => .nil
  | _, _, .cons (k := k') h r => by
    have ih := RKs.drop (k := k) r
    unfold L2.dropK delK at ih ⊢
    rw [List.filter_cons, List.filter_cons]
    by_cases e : k' = k
    · rw [if_neg (by simpa using e), if_neg (by simp [kD_eq, e])]
      exact ih
    · rw [if_pos (by simpa using e), if_pos (by simp [kD_eq, e])]
      exact .cons h ih
theorem RVs.reverse {K : PySem.W.Frag} {H : Hp} : ∀ {vs : List V} {ds : List D}, RVs K H vs ds → RVs K H vs.reverse ds.reverse
  | _, _, .nil => .nil
  | _, _, .cons h r => by
    rw [List.reverse_cons, List.reverse_cons]
    exact r.reverse.append (.cons h .nil)
theorem RKs.len0 {C : Cn} {H : Hp} : ∀ {l : List (Key × V)} {m : List (D × D)}, RKs C H l m → l.length = m.length
  | _, _, .nil => rfl
  | _, _, .cons h r => congrArg (· + 1) r.len0
theorem eqV_int_self (i : Int) : eqV (.int i) (.int i) = true := by simp [eqV]
theorem eqV_int_ne {i j : Int} (h : i ≠ j) : eqV (.int i) (.int j) = false := by simp [eqV, h]
theorem QV.put {C : Cn} {H : Hp} {S : Store} {Q : VK} {d : D} {v : V} {p : Addr} {o : HO} {c c0 : Cell} (h : QV C H Q d (S.upd p c)) (ok : SOk C H S) (e : S p = some c0) (r : ∀ H', Ext C.K H H' → RV C.K H' v d) (n : Ext C.K H (L2.upd H p o) → CellR C (L2.upd H p o) p c) (hf : nofz c0 = true := by rfl) : Q v (L2.upd H p o) := by
  obtain ⟨u, hu, hn⟩ := (ok p c0 e).ups hf
  have x : Ext C.K H (L2.upd H p o) := Ext.at hu hn
  exact h v _ x (ok.put e (n x) hf).2 (r _ x)
section
variable {X : Cx} {C : Cn} {W : WX} (hK : X.K = C.K)
include hK in
theorem bmt_rule (hu : X.A.units + 64 < cLine) {k : Kd} {m : Bmt} {id : String} (hi : bmtId k m = some id) : MtR X id (RMD C k m) := by
  intro pins s σ H x vs v us Q I rx rv h
  obtain ⟨dx, ds, S, r1, rs, ok, h⟩ := h
  unfold wpBmt at h
  split at h
  · cases hi
    obtain ⟨xs, e, hl, h⟩ := h
    cases r1
    cases rs with
    | cons r2 rs =>
      cases rs
      obtain ⟨ws, e1, q⟩ := ok.lst e
      exact mt_append pins s σ H _ _ v us Q I rx rv ⟨_, _, _, rfl, rfl, e1, by rw [q.length]; exact hl, QV.put h ok e (fun _ _ => .non) fun x => ⟨_, upd_same, (q.ext x).append (.cons (r2.ext x) .nil)⟩⟩
  · cases hi
    obtain ⟨xs, ys, e, e2, hl, h⟩ := h
    cases r1
    cases rs with
    | cons r2 rs =>
      cases rs
      cases r2
      obtain ⟨ws, e1, q⟩ := ok.lst e
      obtain ⟨zs, e3, q2⟩ := ok.lst e2
      exact mt_extend pins s σ H _ _ v us Q I rx rv ⟨_, _, _, _, rfl, rfl, e1, e3, by rw [q.length, q2.length]; exact hl, QV.put h ok e (fun _ _ => .non) fun x => ⟨_, upd_same, (q.ext x).append (q2.ext x)⟩⟩
  · cases hi
    obtain ⟨xs, e, h⟩ := h
    cases r1
    cases rs
    obtain ⟨ws, e1, q⟩ := ok.lst e
    exact mt_clear pins s σ H _ _ v us Q I rx rv ⟨_, _, rfl, rfl, e1, QV.put h ok e (fun _ _ => .non) fun x => ⟨_, upd_same, .nil⟩⟩
  · cases hi
    obtain ⟨xs, d, e, e2, h⟩ := h
    cases r1
    cases rs
    obtain ⟨ws, e1, q⟩ := ok.lst e
    obtain ⟨y, e3, q3⟩ := q.get e2
    exact mt_pop pins s σ H _ _ v us Q I rx rv ⟨_, _, y, rfl, rfl, e1, by rw [q.length]; exact e3, QV.put h ok e (fun _ x => q3.ext x) fun x => ⟨_, upd_same, (q.ext x).dropLast⟩⟩
  · cases hi
    obtain ⟨xs, j, d, e, h1, h2, h3, h4, h⟩ := h
    cases r1
    cases rs with
    | cons r2 rs =>
      cases rs
      cases r2
      obtain ⟨ws, e1, q⟩ := ok.lst e
      obtain ⟨y, e3, q3⟩ := q.get h4
      exact mt_popAt pins s σ H _ _ v us Q I rx rv ⟨_, _, _, j, y, rfl, rfl, e1, h1, h2, by rw [q.length]; exact h3, e3, QV.put h ok e (fun _ x => q3.ext x) fun x => ⟨_, upd_same, (q.ext x).eraseIdx j⟩⟩
  · cases hi
    obtain ⟨xs, ns, j, e, e2, h1, h2, h⟩ := h
    cases r1
    cases rs with
    | cons r2 rs =>
      cases rs
      cases r2
      obtain ⟨ws, e1, q⟩ := ok.lst e
      cases q.ints e2
      exact mt_remove pins s σ H _ _ v us Q I rx rv ⟨_, ns, _, j, rfl, rfl, e1, h1, h2, QV.put h ok e (fun _ _ => .non) fun x => ⟨_, upd_same, RVs.ofInts⟩⟩
  · cases hi
    obtain ⟨xs, ys, e, e2, hl, h⟩ := h
    cases r1
    cases rs with
    | cons r2 rs =>
      cases rs
      obtain ⟨p, ws, rfl, q, z⟩ := sq_of ok r2 e
      cases q.strs e2
      refine mt_join pins s σ H _ _ v us Q I rx rv ⟨_, p, ys, rfl, rfl, ?_, hl, h.at ok (.str _)⟩
      rcases z with z | z
      · exact .inl (hK ▸ z)
      · exact .inr (hK ▸ z.1)
  · cases hi
    cases r1
    cases rs with
    | cons r2 rs =>
      cases rs
      cases r2
      exact mt_split pins s σ H _ _ v us Q I rx rv ⟨_, _, rfl, rfl, h.1, h.2.1, fun p hp => QV.new h.2.2 ok RVs.ofStrs hp⟩
  · cases hi
    obtain ⟨kvs, e, f, h⟩ := h
    cases r1
    cases rs with
    | cons r2 rs =>
      cases rs
      obtain ⟨ky, rfl⟩ := key_of f
      obtain ⟨l, e1, q⟩ := ok.dic e
      cases kV_of r2
      obtain ⟨u, rfl, ru⟩ := Vals.one rv
      cases rx
      refine d_get1 (by omega) I (.inl ⟨l, ky, .inl e1, rfl, rfl⟩) ru fun w' s' I' rw' => ⟨_, H, I', rw', h.at ok ?_⟩
      have g := q.get ky
      revert g
      cases valV l ky <;> cases getK (kD ky) kvs <;> intro g
      · exact .non
      · exact g.elim
      · exact g.elim
      · exact g
  · cases hi
    obtain ⟨kvs, e, f, h⟩ := h
    cases r1
    cases rs with
    | cons r2 rs =>
      cases rs with
      | cons r3 rs =>
        cases rs
        obtain ⟨ky, rfl⟩ := key_of f
        obtain ⟨l, e1, q⟩ := ok.dic e
        cases kV_of r2
        obtain ⟨u, u2, rfl, ru, ru2⟩ := Vals.two rv
        cases rx
        refine d_get2 (by omega) I (.inl ⟨l, ky, .inl e1, rfl, rfl⟩) ru ru2 fun w' s' I' rw' => ⟨_, H, I', rw', h.at ok ?_⟩
        have g := q.get ky
        revert g
        cases valV l ky <;> cases getK (kD ky) kvs <;> intro g
        · exact r3
        · exact g.elim
        · exact g.elim
        · exact g
  · cases hi
    obtain ⟨kvs, d, e, f, h1, h⟩ := h
    cases r1
    cases rs with
    | cons r2 rs =>
      cases rs
      obtain ⟨ky, rfl⟩ := key_of f
      obtain ⟨l, e1, q⟩ := ok.dic e
      cases kV_of r2
      obtain ⟨u, rfl, ru⟩ := Vals.one rv
      cases rx
      obtain ⟨w, e3, q3⟩ := q.val h1
      exact d_pop I e1 ru e3 (.inl rfl) fun w' s' I' rw' => ⟨w, _, I', rw', QV.put h ok e (fun _ x => q3.ext x) fun x => ⟨_, upd_same, (q.ext x).drop⟩⟩
  · cases hi
    obtain ⟨xs, ns, j, e, e2, h1, h2, h⟩ := h
    cases r1
    cases rs with
    | cons r2 rs =>
      cases rs
      cases r2
      obtain ⟨ws, e1, q⟩ := ok.lst e
      cases q.ints e2
      refine mt_index pins s σ H _ _ v us Q I rx rv ⟨_, _, _, j, .int _, rfl, rfl, .of e1, rfl, ?_, by rw [List.getElem?_map, h1]; rfl, ?_, fun m z' hm hz => ?_, h.at ok (.int _)⟩
      · rw [List.all_map]
        exact List.all_eq_true.mpr fun x _ => rfl
      · exact eqV_int_self _
      · rw [List.getElem?_map] at hz
        cases e3 : ns[m]? with
        | none => rw [e3] at hz; cases hz
        | some k =>
          rw [e3] at hz
          cases hz
          exact eqV_int_ne fun z => h2 m hm (by rw [e3, z])
  · cases hi
    obtain ⟨xs, e, hl, h1, h2, h⟩ := h
    cases r1
    cases rs with
    | cons r2 rs =>
      cases rs with
      | cons r3 rs =>
        cases rs
        cases r2
        obtain ⟨ws, e1, q⟩ := ok.lst e
        exact mt_insert pins s σ H _ _ v us Q I rx rv ⟨_, ws, _, _, rfl, rfl, e1, by rw [q.length]; exact hl, h1, h2, QV.put h ok e (fun _ _ => .non) fun x => ⟨_, upd_same, (((q.ext x).take _).append (.cons (r3.ext x) .nil)).append ((q.ext x).drop _)⟩⟩
  · cases hi
    obtain ⟨xs, e, h⟩ := h
    cases r1
    cases rs
    obtain ⟨ws, e1, q⟩ := ok.lst e
    exact mt_reverse pins s σ H _ _ v us Q I rx rv ⟨_, _, rfl, rfl, e1, QV.put h ok e (fun _ _ => .non) fun x => ⟨_, upd_same, (q.ext x).reverse⟩⟩
  · cases hi
    obtain ⟨xs, ns, e, e2, h⟩ := h
    cases r1
    cases rs with
    | cons r2 rs =>
      cases rs
      cases r2
      obtain ⟨ws, e1, q⟩ := ok.lst e
      cases q.ints e2
      exact mt_lcount pins s σ H _ _ v us Q I rx rv ⟨_, ns, _, rfl, rfl, .of e1, h.at ok (.int _)⟩
  · cases hi
    cases r1
    cases rs with
    | cons r2 rs =>
      cases rs
      cases r2
      exact mt_startswith pins s σ H _ _ v us Q I rx rv ⟨_, _, rfl, rfl, h.at ok (.bl _)⟩
  · cases hi
    obtain ⟨kvs, e, f, hl, h1, h2⟩ := h
    cases r1
    cases rs with
    | cons r2 rs =>
      cases rs with
      | cons r3 rs =>
        cases rs
        obtain ⟨ky, rfl⟩ := key_of f
        obtain ⟨l, e1, q⟩ := ok.dic e
        cases kV_of r2
        obtain ⟨u, u2, rfl, ru, ru2⟩ := Vals.two rv
        cases rx
        have g := q.get ky
        refine d_setd I e1 ru ru2 (by rw [q.len0]; exact hl) (fun w hw w' s' I' rw' => ?_) fun hw w' s' I' rw' => ?_
        · rw [hw] at g
          cases g2 : getK (kD ky) kvs with
          | none => rw [g2] at g; exact g.elim
          | some d' =>
            rw [g2] at g
            exact ⟨_, H, I', rw', (h1 d' g2).at ok g⟩
        · rw [hw] at g
          cases g2 : getK (kD ky) kvs with
          | some d' => rw [g2] at g; exact g.elim
          | none => exact ⟨_, _, I', rw', QV.put (h2 g2) ok e (fun _ x => r3.ext x) fun x => ⟨_, upd_same, RKs.put (r3.ext x) (q.ext x)⟩⟩
  · exact h.elim
theorem kdM_ty {H : Hp} {S : Store} (ok : SOk C H S) {x : V} {d : D} {k : Kd} (r : RV C.K H x d) (h : kdM S d = some k) : tyV C.K k.nm x H := by
  cases r with
  | str s => cases h; exact rfl
  | ref a =>
    simp only [kdM] at h
    cases e : S a with
    | none => rw [e] at h; cases h
    | some c =>
      rw [e] at h
      cases c with
      | lst xs =>
        cases h
        obtain ⟨ws, e1, _⟩ := ok.lst e
        exact .inl ⟨rfl, ws, .of e1⟩
      | dic kvs =>
        cases h
        obtain ⟨l, e1, _⟩ := ok.dic e
        exact .inr (.inr (.inl ⟨rfl, .inl ⟨l, e1⟩⟩))
      | ins _ _ => cases h
      | fz _ => cases h
  | _ => cases h
include hK in
theorem s_bmt {o : Expr} {m : Bmt} {apos pos : Pos} {es : List Expr} {wo : WE} {wes : WA} (hu : X.A.units + 64 < cLine) (he : PE X o (LE C W wo)) (mo : MonoE wo)
    (ha : PA X es (LA C W wes)) (ma : MonoA wes) (hnil : es = [] → wes = fun _ S Q _ => Q [] S) (hb : okBase o = true) (hs : es.all notStar = true) (hl : es.length < 30) (hln : (apos.endLine == pos.line) = true) :
    PE X (.Call (.Attribute o (bmtNm m) apos) es [] pos) (LE C W fun env S Q E => wo env S (fun x S1 => ∃ k, kdM S1 x = some k ∧ (bmtId k m).isSome = true ∧ wes env S1 (fun ds S2 => wpBmt k m x ds S2 Q) E) E) := by
  refine ⟨fun pins s σ H Q I ⟨env, S, r, q⟩ => ?_⟩
  have hfew : ((backTo pos (starEach es X.env)).all (fun x => !x.1) && (backToKw pos (keywordEach [] X.env)).all (fun x => x.1.isSome) && decide (es.length + ([] : List Keyword).length + (if ([] : List Keyword).isEmpty then 0 else 1) < 30)) = true := mform hs hl
  refine wpAny_Call_method_late (base_of hb) hfew hln rfl ?_
  refine thn (he.run pins s σ H (fun x H1 => ∃ d k id S1, RV C.K H1 x d ∧ Ext C.K H H1 ∧ Rl C σ H1 env S1 ∧ kdM S1 d = some k ∧ bmtId k m = some id ∧ wes env S1 (fun ds S2 => wpBmt k m d ds S2 (QV C H1 Q)) (XW C W σ H1)) I
    (LE.use mo r q (fun _ _ z => z) fun d1 S1 v1 H1 x1 r1 q1 ⟨k, e, e1, z⟩ => by
      obtain ⟨id, e2⟩ := Option.isSome_iff_exists.mp e1
      exact ⟨d1, k, id, S1, q1, x1, r1, e, e2, ma _ _ _ _ _ _ (fun ds S2 z => wpBmt_mono (QV.ext x1) z) (XW.ext x1) z⟩)) fun u s1 ⟨x, H1, I1, rx, d, k, id, S1, q1, x1, r1, e, e2, z⟩ => ?_
  obtain ⟨pa, slot, hty⟩ := bmt_slot e2
  obtain ⟨t1, t2⟩ := tyV_is I1 rx (hK ▸ kdM_ty r1.2.2 q1 e)
  refine ⟨k.nm, id, pa, slot, hty, t1, t2, ?_⟩
  have hm := bmt_rule (X := X) (C := C) hK hu e2
  cases es with
  | nil =>
    rw [hnil rfl] at z
    exact Calls.callWith_builtin rfl (PySem.evalArgs_none (hm pins s1 σ H1 x [] u [] Q I1 rx .nil ⟨d, [], S1, q1, .nil, r1.2.2, z⟩))
  | cons e0 es =>
    have hA := ha.run pos pins s1 σ H1 (fun vs H2 => RMD C k m x vs H2 Q) I1 (LA.use ma r1 z (fun _ _ z => z) fun ds S2 vs H2 x2 r2 q2 k2 => ⟨d, ds, S2, q1.ext x2, q2, r2.2.2, wpBmt_mono (QV.ext x2) k2⟩)
    rw [List.all_cons, Bool.and_eq_true] at hs
    rw [star1 hs.1] at hA ⊢
    refine Calls.callWith_builtin (by show (false || (backTo pos (starEach es X.env)).any (·.1)) = false; rw [starAll hs.2]; rfl) (Calls.evalArgs_plain ?_)
    exact thn hA fun us s2 ⟨vs, H2, I2, r2, q2⟩ => hm pins s2 σ H2 x vs u us Q I2 rx r2 q2
end
end SW
/-! SW, part Ha: enumerate over a tuple. -/
namespace SW
open PySem PySem.Spec PyProof.Rows L2
theorem meets_enu_tup (l : Addr) (items : Array Value) (n : Nat) (dct : Option Addr) (sl : Array (Option Value)) :
    Meets (Builtin.«enumerate.__new__» ⟨[.type "enumerate", .ref l], []⟩) (fun _ R s => s.heap.get? l = some { cls := .type "tuple", dict := dct, data := .seq items n, slots := sl } ∧
      R (.ok (.ret (.ref (s.heap.push { cls := .type "tuple_iterator", data := .fields #[.ref l, .int 0 0] }).objs.size)))
        { s with heap := (s.heap.push { cls := .type "tuple_iterator", data := .fields #[.ref l, .int 0 0] }).push { cls := .type "enumerate", data := .fields #[.none, .bool false, .ref s.heap.objs.size, rawInt 0, .none, .none] } }) :=
  .of_wp fun prog w A R s h => by
    obtain ⟨hp, g, d, tk, os⟩ := s
    obtain ⟨hl, h⟩ := h
    have hsub := sub_enumerate
    have hL : Heap.IsTuple (Shared.heap ⟨hp, g, d, tk, os⟩) l items := ⟨_, hl, rfl, n, rfl⟩
    wp_walk using AutoSeq1.wpAny_loadPart' hl
    refine wpAny_stack_any fun st => wpAny_pure ?_
    split
    · rename_i c _ _ _ _ _
      cases (c == Value.type "enumerate")
      · wp_walk using AutoSeq1.wpAny_loadPart' hl, wpAny_pyIter_tuple hL
        exact ⟨_, rfl, h⟩
      · wp_walk using AutoSeq1.wpAny_loadPart' hl, wpAny_pyIter_tuple hL
        exact ⟨_, rfl, h⟩
    · wp_walk using AutoSeq1.wpAny_loadPart' hl, wpAny_pyIter_tuple hL
      exact ⟨_, rfl, h⟩
theorem call_enu_tup {prog : Program} {w : World} {A : Around} {E : Value → Shared → Prop} {s : Shared} {l : Addr} {items : Array Value} {Q : Value → Shared → Prop} (hL : s.heap.IsTuple l items)
    (h : ∀ h', IsEnum h' (s.heap.objs.size + 1) s.heap.objs.size 0 .none → h'.IsTupleIter s.heap.objs.size l 0 → h'.objs.size = s.heap.objs.size + 2 →
      (∀ b o, s.heap.get? b = some o → h'.get? b = some o) → Q (.ref (s.heap.objs.size + 1)) { s with heap := h' }) :
    wpAny (model prog w) A (call (.type "enumerate") [.ref l]) Q E s := by
  obtain ⟨⟨c, dct, dt, sl⟩, hl, hc, n, hd⟩ := hL
  replace hc : c = .type "tuple" := hc
  replace hd : dt = .seq items n := hd
  subst hc hd
  refine callType_new F.called_enumerate (by decide) (F.typeCall_enumerate_1 _) (F.newCall_enumerate_1 _) (fun obj => F.args_object_init_2 obj _) F.entry_enumerate_new
    (meets_enu_tup l items n dct sl) ⟨hl, ?_⟩
  have hz : (s.heap.push { cls := .type "tuple_iterator", data := .fields #[.ref l, .int 0 0] }).objs.size = s.heap.objs.size + 1 := Heap.size_push ..
  show _ ∧ _
  rw [hz]
  have he : IsEnum ((s.heap.push { cls := .type "tuple_iterator", data := .fields #[.ref l, .int 0 0] }).push
      { cls := .type "enumerate", data := .fields #[.none, .bool false, .ref s.heap.objs.size, rawInt 0, .none, .none] }) (s.heap.objs.size + 1) s.heap.objs.size 0 .none := by
    have z := Heap.get?_push_size (s.heap.push { cls := .type "tuple_iterator", data := .fields #[.ref l, .int 0 0] })
      (o := { cls := .type "enumerate", data := .fields #[.none, .bool false, .ref s.heap.objs.size, rawInt 0, .none, .none] }) rfl
    rw [hz] at z
    exact z
  refine ⟨⟨_, he, rfl⟩, h _ he ⟨_, Heap.get?_push_of_some _ (Heap.get?_push_size _ rfl), rfl, rfl⟩ (by rw [Heap.size_push, hz]) fun b o x => Heap.get?_push_of_some _ (Heap.get?_push_of_some _ x)⟩
/-- the tuple at a, each item in a new pair -/
def ItE (K : PySem.W.Frag) (a : Addr) : It :=
  ⟨fun i H => ∃ (xs : List V) (x : V), SqT K H a xs ∧ xs[i]? = some x, fun i H v H' => ∃ T x, v = .ref T ∧ H T = none ∧ H' = L2.upd H T (.tup [.int (i : Nat), x]) ∧ ∀ xs, SqT K H a xs → xs[i]? = some x, fun i H => ∃ xs : List V, SqT K H a xs ∧ xs.length = i⟩
theorem turn_enu_tup {P : Program} {w : World} {K : PySem.W.Frag} {elts : List Expr} {kk : Nat} {tpos : Pos} (a e it : Addr) (hai : a ≠ it) (hea : e ≠ a) :
    Turn P w K (.Tuple elts kk tpos) (ItE K a) [e, it] e (fun i h => (∃ old, IsEnum h e it ((i : Nat) : Int) old) ∧ h.IsTupleIter it a i ∧ e ≠ it) where
  mem := by simp
  obj := fun i h st b hb => by
    obtain ⟨⟨old, he⟩, ⟨o, ho, hc, hd⟩, _⟩ := st
    have e' : b = e ∨ b = it := by simpa using hb
    rcases e' with z | z
    · rw [z]; exact ⟨_, he, fun v q => nomatch q⟩
    · rw [z]; exact ⟨o, ho, fun v q => by rw [hd] at q; cases q⟩
  keep := fun i h h' st k => let ⟨⟨old, he⟩, hi, hne⟩ := st; ⟨⟨old, k e (by simp) _ he⟩, hi.at fun o q => k it (by simp) o q, hne⟩
  item := by
    intro X hP hw hK hc i pins s σ H E I hf st hg
    subst hP hw hK
    obtain ⟨⟨old, he⟩, hit, hne⟩ := st
    obtain ⟨xs, x, hq, hx⟩ := hg
    obtain ⟨its, rv, p, hz⟩ := I.tuple hq
    obtain ⟨u, hu, ru⟩ := rv.get hx
    have hel : e < s.heap.objs.size := Heap.lt_size he
    have hil : it < s.heap.objs.size := by obtain ⟨_, q, _⟩ := hit; exact Heap.lt_size q
    have hl := rv.length
    have hi : i < its.length := by
      have z := (List.getElem?_eq_some_iff.mp hu).1
      exact z
    refine wpAny_pyNext_enum_itemD (Draws.tuple (prog := X.prog) (w := X.w) (A := X.A.in1) (I.ok.hd hc) it a hai its.toArray) he ⟨hit, p⟩ (by simpa using hi) hne (by simp [hne, hea]) fun x' h' tk hx' ho hit' hT hsz hk => ?_
    have ex : x' = u := by
      have z : its.toArray[i]? = some x' := hx'
      have z2 : its.toArray[i]? = some u := by simpa using hu
      rw [z2] at z
      cases z
      rfl
    subst ex
    refine ⟨_, rfl, wpAny_letOwnedTupleGo_enum (s := { s with heap := h', toks := tk + 1 }) ho fun h'' he' sb => ?_⟩
    have hT2 : h''.get? s.heap.objs.size = some { cls := .type "tuple", data := .seq #[.int i tk, x'] } := (sb.2 _ (Nat.ne_of_gt hel)).trans hT
    have new : ObjOk X.prog X.w (L2.upd H s.heap.objs.size (.tup [.int (i : Nat), x])) h'' s.heap.objs.size (.tup [.int (i : Nat), x]) :=
      ⟨by show 2 ≤ sizeLine; decide, [.int i tk, x'], .cons ⟨_, rfl⟩ (.cons ru .nil), ⟨_, hT2, rfl, _, rfl⟩⟩
    have I1 : L2.Inv X pins σ (L2.upd H s.heap.objs.size (.tup [.int (i : Nat), x])) { s with heap := h'', toks := tk + 1 } :=
      I.turnedNew (ch := [e, it]) (fun b ob hb q => (sb.2 b (fun z => hb (by simp [z]))).trans (hk b ob (fun z => hb (by simp [z])) (fun z => hb (by simp [z])) q)) hf (Nat.le_refl _) new
    refine ⟨.ref s.heap.objs.size, _, I1, rfl, ⟨_, x, rfl, I.hok.fresh (Nat.le_refl _), rfl, fun ys hy => by rw [I.tuple_inj hy hq]; exact hx⟩, ⟨⟨x', ?_⟩, hit'.1.at fun o q => (sb.2 it (Ne.symm hne)).trans q, hne⟩, fun b hb => ?_⟩
    · have e1 : ((i + 1 : Nat) : Int) = (i : Int) + 1 := by omega
      rw [e1]; exact he'
    · have hb' : b < s.heap.objs.size := by
        have e' : b = e ∨ b = it := by simpa using hb
        rcases e' with z | z
        · rw [z]; exact hel
        · rw [z]; exact hil
      rw [upd_ne (Nat.ne_of_lt hb')]
      exact (hf b hb).1
  done := by
    intro X hP hw hK hc i pins s σ H E I hf st hg
    subst hP hw hK
    obtain ⟨⟨old, he⟩, hit, hne⟩ := st
    obtain ⟨xs, hq, hx⟩ := hg
    obtain ⟨its, rv, p, hz⟩ := I.tuple hq
    obtain ⟨f0, f1, f2, f3, f4, f5⟩ := hf it (by simp)
    have hl := rv.length
    have ei : i = its.toArray.size := by simp; omega
    subst ei
    exact wpAny_pyNext_enum_endD (Draws.tuple (prog := X.prog) (w := X.w) (A := X.A.in1) (I.ok.hd hc) it a hai its.toArray) he ⟨hit, p⟩ fun h' eb => ⟨rfl, I.turned (t' := s.toks) (fun b o hb q => eb b o hb q) f0 f1 f3 f4 f5⟩
  self := fun A i s Q E st h => let ⟨⟨_, he⟩, _⟩ := st; wpAny_pyIter_enum he h
/-- enumerate(x): a list or a tuple -/
def iEnu (K : PySem.W.Frag) (ta : TA) : TI := fun σ H R => ta σ H fun vs H1 => ∃ a xs, vs = [.ref a] ∧ ((SqL K H1 a xs ∧ R (Ite K a) H1) ∨ (SqT K H1 a xs ∧ R (ItE K a) H1))
theorem pi_enu {X : Cx} {e : Expr} {ta : TA} {p pos tpos : Pos} {elts : List Expr} {kk : Nat} (hg : Gl X "enumerate") (hm : X.mg "enumerate" = none) (ha : PA X [e] ta) (hs : starEach [e] X.env = [(false, eval e X.env)] := by rfl) :
    PI X (.Tuple elts kk tpos) (.Call (.Name "enumerate" p) [e] [] pos) (iEnu X.K ta) := by
  refine ⟨fun pins s σ H R I h => ?_⟩
  refine Call_ (ld_blt I hg hm boot_enumerate (PyProof.Rows.callWith_type1 (thn (ha.run pos pins s σ H _ I h) fun us s1 ⟨vs, H1, I1, r1, q1⟩ => ?_) hs rfl))
  obtain ⟨a, xs, ex, q⟩ := q1
  subst ex
  cases r1 with
  | cons r rr =>
    cases rr
    cases r
    have fin : ∀ b, b ∈ [s1.heap.objs.size + 1, s1.heap.objs.size] → FpOk X pins H1 b := fun b hb => by
      have e' : b = s1.heap.objs.size + 1 ∨ b = s1.heap.objs.size := by simpa using hb
      have hle : s1.heap.objs.size ≤ b := by
        rcases e' with z | z
        · rw [z]; exact Nat.le_add_right _ _
        · rw [z]; exact Nat.le_refl _
      exact I1.fpOk hle (I1.hok.fresh hle)
    rcases q with ⟨hq, q⟩ | ⟨hq, q⟩
    · obtain ⟨its, rv, p', hz⟩ := I1.list hq
      refine call_enumerate_list p'.isList fun h' he hit hsz hk => wpAny_pyIter_enum he ?_
      have I2 : L2.Inv X pins σ H1 { s1 with heap := h' } := I1.kept (t' := s1.toks) hk
      exact ⟨s1.heap.objs.size + 1, [s1.heap.objs.size + 1, s1.heap.objs.size], _, _, H1, rfl, I2, turn_enum a (s1.heap.objs.size + 1) s1.heap.objs.size, ⟨⟨.none, he⟩, hit, Nat.succ_ne_self _⟩, fin, q⟩
    · obtain ⟨its, rv, p', hz⟩ := I1.tuple hq
      have hlt : a < s1.heap.objs.size := by obtain ⟨o, ho, _⟩ := p'; exact Heap.lt_size ho
      refine call_enu_tup (show s1.heap.IsTuple a its.toArray from p') fun h' he hit hsz hk => wpAny_pyIter_enum he ?_
      have I2 : L2.Inv X pins σ H1 { s1 with heap := h' } := I1.kept (t' := s1.toks) hk
      exact ⟨s1.heap.objs.size + 1, [s1.heap.objs.size + 1, s1.heap.objs.size], _, _, H1, rfl, I2, turn_enu_tup a (s1.heap.objs.size + 1) s1.heap.objs.size (Nat.ne_of_lt hlt) (Nat.ne_of_gt (Nat.lt_succ_of_lt hlt)), ⟨⟨.none, he⟩, hit, Nat.succ_ne_self _⟩, fin, q⟩
end SW
/-! SW, part I: what is walked, comprehensions. -/
namespace SW
open PySem PySem.Spec PyProof.Rows L2
abbrev WI := Env → Store → (List D → (Store → Prop) → Store → Prop) → PX → Prop
def MonoI (w : WI) : Prop := ∀ env S K K' E E', (∀ d g S, K d g S → K' d g S) → (∀ c S, E c S → E' c S) → w env S K E → w env S K' E'
/-- a walk over these items, from the heap H0 on -/
def ItOk (C : Cn) (H0 : Hp) (J : It) (items : List D) (guard : Store → Prop) : Prop := ∃ G Y, Walk J items.length G Y ∧ (∀ H S, Ext C.K H0 H → SOk C H S → guard S → G H) ∧
  ∀ i H S x H', i < items.length → Ext C.K H0 H → SOk C H S → guard S → Y i H x H' → Ext C.K H H' ∧ SOk C H' S ∧ ∃ d, items[i]? = some d ∧ RV C.K H' x d
def LI (C : Cn) (W : WX) (w : WI) : TI := fun σ H R => ∃ env S, Rl C σ H env S ∧ w env S (fun items guard S1 => ∀ J H1, Ext C.K H H1 → Rl C σ H1 env S1 → ItOk C H1 J items guard → R J H1) (XW C W σ H)
section
variable {X : Cx} {C : Cn} {W : WX} (hK : X.K = C.K) {tg : Expr}
theorem itok_list {H0 : Hp} {a : Addr} {xs : List D} : ItOk C H0 (Itl C.K a) xs (fun S => S a = some (.lst xs)) := by
  refine ⟨fun H => ∃ vs, SqL C.K H a vs ∧ RVs C.K H vs xs, fun i H x H' => H' = H ∧ ∃ vs, RVs C.K H vs xs ∧ vs[i]? = some x, ⟨fun i H hi ⟨vs, h, r⟩ => ?_, fun H ⟨vs, h, r⟩ => ?_, fun i H x H' hi ⟨vs, h, r⟩ y => ?_⟩, fun H S _ ok g => ?_, fun i H S x H' hi _ ok g ⟨e, vs, r, h⟩ => ?_⟩
  · have hl : i < vs.length := by rw [r.length]; exact hi
    exact ⟨vs, vs[i], h, List.getElem?_eq_getElem hl⟩
  · exact ⟨vs, h, Nat.le_of_eq r.length⟩
  · exact ⟨y.1, vs, r, y.2 vs h⟩
  · obtain ⟨vs, e, r⟩ := ok.lst g
    exact ⟨vs, .of e, r⟩
  · subst e
    obtain ⟨d, e, q⟩ := r.get' h
    exact ⟨Ext.refl, ok, d, e, q⟩
theorem itok_ro {H0 : Hp} {a : Addr} {vs : List V} {xs : List D} (t : RoL C.K H0 a vs) (r : RVs C.K H0 vs xs) : ItOk C H0 (Itl C.K a) xs (fun _ => True) := by
  refine ⟨fun H => SqL C.K H a vs, YAt vs, r.length ▸ walk_list, fun H S x _ _ => ((x a vs).2.1 t).sq, fun i H S x H' hi xt ok _ ⟨e, h⟩ => ?_⟩
  subst e
  obtain ⟨d, e, q⟩ := (r.ext xt).get' h
  exact ⟨Ext.refl, ok, d, e, q⟩
theorem itok_tup {H0 : Hp} {a : Addr} {vs : List V} {xs : List D} (t : SqT C.K H0 a vs) (r : RVs C.K H0 vs xs) : ItOk C H0 (Itt C.K a) xs (fun _ => True) := by
  refine ⟨fun H => SqT C.K H a vs, YAt vs, r.length ▸ walk_tup, fun H S x _ _ => (x a vs).1 t, fun i H S x H' hi xt ok _ ⟨e, h⟩ => ?_⟩
  subst e
  obtain ⟨d, e, q⟩ := (r.ext xt).get' h
  exact ⟨Ext.refl, ok, d, e, q⟩
theorem itok_str {H0 : Hp} {z : Str} : ItOk C H0 (Its z) (z.cps.toList.map fun c => .str ⟨#[c]⟩) (fun _ => True) := by
  have hl : (z.cps.toList.map fun c => D.str ⟨#[c]⟩).length = z.cps.size := by simp
  refine ⟨_, _, hl ▸ walk_str, fun _ _ _ _ _ => trivial, fun i H S x H' hi xt ok _ ⟨e, c, h, ex⟩ => ?_⟩
  subst e ex
  refine ⟨Ext.refl, ok, .str ⟨#[c]⟩, ?_, .str _⟩
  rw [List.getElem?_map, Array.getElem?_toList, h]
  rfl
theorem itok_rng {H0 : Hp} {lo hi : Int} : ItOk C H0 (Itr lo (hi - lo).toNat) (rngL lo hi) (fun _ => True) := by
  have hl : (rngL lo hi).length = (hi - lo).toNat := by unfold rngL; rw [List.length_map, List.length_range]
  refine ⟨_, YFn fun i => .int (lo + i), hl.symm ▸ (walk_range (lo := lo) (n := (hi - lo).toNat)), fun _ _ _ _ _ => trivial, fun i H S x H' hi' xt ok _ ⟨e, h⟩ => ?_⟩
  subst e h
  refine ⟨Ext.refl, ok, .int (lo + (i : Int)), ?_, .int _⟩
  unfold rngL
  rw [List.getElem?_map, List.getElem?_range (by omega)]
  rfl
/-- an iterator of a list, of a tuple -/
theorem it_list {pins : List (Addr × Obj)} {σ : St2} {H : Hp} {s : Shared} {R : It → Hp → Prop} {E : Value → Shared → Prop} {a : Addr} {vs : List V} (I : L2.Inv X pins σ H s) (h : SqL X.K H a vs) (q : R (Itl X.K a) H) :
    wpAny (model X.prog X.w) X.A (pyIter (.ref a)) (PIE X pins σ tg R) E s := by
  obtain ⟨us, _, p, _⟩ := I.list h
  exact wpAny_pyIter_list p.isList (pi_one (tk := s.toks) I _ (turn_list a _) ⟨_, Heap.get?_push_size _ rfl, rfl, rfl⟩ q)
theorem it_tup {pins : List (Addr × Obj)} {σ : St2} {H : Hp} {s : Shared} {R : It → Hp → Prop} {E : Value → Shared → Prop} {a : Addr} {vs : List V} (I : L2.Inv X pins σ H s) (h : SqT X.K H a vs) (q : R (Itt X.K a) H) :
    wpAny (model X.prog X.w) X.A (pyIter (.ref a)) (PIE X pins σ tg R) E s := by
  obtain ⟨us, _, p, _⟩ := I.tuple h
  exact wpAny_pyIter_tuple p (pi_one (tk := s.toks) I _ (turn_tuple a _) ⟨_, Heap.get?_push_size _ rfl, rfl, rfl⟩ q)
theorem it_str {pins : List (Addr × Obj)} {σ : St2} {H : Hp} {s : Shared} {R : It → Hp → Prop} {E : Value → Shared → Prop} {z : Str} {t : Tok} (I : L2.Inv X pins σ H s) (q : R (Its z) H) :
    wpAny (model X.prog X.w) X.A (pyIter (.str z t)) (PIE X pins σ tg R) E s := by
  cases ha : z.cps.all (· < 128) with
  | false => exact wpAny_pyIter_wide ha (pi_one (tk := s.toks) I _ (turn_str _ z t "str_iterator" (.inr rfl)) ⟨_, Heap.get?_push_size _ rfl, rfl, rfl⟩ q)
  | true => exact wpAny_pyIter_ascii ha (pi_one (tk := s.toks) I _ (turn_str _ z t "str_ascii_iterator" (.inl rfl)) ⟨_, Heap.get?_push_size _ rfl, rfl, rfl⟩ q)
include hK in
theorem i_seq {e : Expr} {we : WE} (he : PE X e (LE C W we)) (me : MonoE we) : PI X tg e (LI C W fun env S K E => we env S (fun x S1 => wpSeq x S1 fun xs g => K xs g S1) E) := by
  refine ⟨fun pins s σ H R I ⟨env, S, r, q⟩ => ?_⟩
  refine thn (he.run pins s σ H (fun x H1 => ∃ d S1, RV C.K H1 x d ∧ Ext C.K H H1 ∧ Rl C σ H1 env S1 ∧ wpSeq d S1 fun items guard => ∀ J H1, Ext C.K H H1 → Rl C σ H1 env S1 → ItOk C H1 J items guard → R J H1) I
    (LE.use me r q (fun _ _ z => z) fun d1 S1 v1 H1 x1 r1 q1 k1 => ⟨d1, S1, q1, x1, r1, k1⟩)) fun u s1 ⟨x, H1, I1, rx, d, S1, q1, x1, r1, k⟩ => ?_
  unfold wpSeq at k
  split at k
  · cases q1 with
    | tup t q =>
      cases rx
      exact it_tup I1 (hK ▸ t) (hK ▸ k _ H1 x1 r1 (itok_tup t q))
  · cases q1 with
    | rl t q =>
      cases rx
      exact it_list I1 (hK ▸ t.sq) (hK ▸ k _ H1 x1 r1 (itok_ro t q))
  · obtain ⟨xs, e1, k⟩ := k
    cases q1
    cases rx
    obtain ⟨vs, e2, _⟩ := r1.2.2.lst e1
    exact it_list I1 (.of e2) (hK ▸ k _ H1 x1 r1 itok_list)
  · cases q1
    obtain ⟨t, rfl⟩ := rx
    exact it_str I1 (k _ H1 x1 r1 itok_str)
  · exact k.elim
theorem i_rng1 {a : Expr} {p pos : Pos} {wa : WE} (hg : Gl X "range") (hm : X.mg "range" = none) (ha : PE X a (LE C W wa)) (ma : MonoE wa) (h1 : notStar a = true) :
    PI X tg (.Call (.Name "range" p) [a] [] pos) (LI C W fun env S K E => wa env S (fun x S1 => ∃ j, x = .int j ∧ small j ∧ K (rngL 0 j) (fun _ => True) S1) E) := by
  refine ⟨fun pins s σ H R I ⟨env, S, r, q⟩ => (pi_range1 hg hm (pa_cons ha pa_nil (star1 h1)) (star1 h1)).run pins s σ H R I (LE.use ma r q (fun _ _ z => z) fun d S1 v H1 x1 r1 q1 ⟨j, e, sm, k⟩ => ?_)⟩
  subst e
  cases q1
  refine ⟨j, rfl, sm.1, sm.2, ?_⟩
  have h := k (Itr 0 (j - 0).toNat) H1 x1 r1 itok_rng
  rw [Int.sub_zero] at h
  exact h
theorem i_rng2 {a b : Expr} {p pos : Pos} {wa wb : WE} (hg : Gl X "range") (hm : X.mg "range" = none) (ha : PE X a (LE C W wa)) (hb : PE X b (LE C W wb)) (ma : MonoE wa) (mb : MonoE wb) (h1 : notStar a = true) (h2 : notStar b = true) :
    PI X tg (.Call (.Name "range" p) [a, b] [] pos) (LI C W fun env S K E => wa env S (fun x S1 => wb env S1 (fun y S2 => ∃ i j, x = .int i ∧ y = .int j ∧ small i ∧ small j ∧ K (rngL i j) (fun _ => True) S2) E) E) := by
  have e2 : starEach [a, b] X.env = [(false, eval a X.env), (false, eval b X.env)] := (star1 h1).trans (by rw [star1 h2]; rfl)
  refine ⟨fun pins s σ H R I ⟨env, S, r, q⟩ => (pi_range2 hg hm (pa_cons ha (pa_cons hb pa_nil (star1 h2)) (star1 h1)) e2 (star1 h2)).run pins s σ H R I (LE.use ma r q (fun _ _ z => z) fun d S1 v H1 x1 r1 q1 k1 =>
    LE.use mb r1 k1 (XW.ext x1) fun d2 S2 v2 H2 x2 r2 q2 ⟨i, j, e1, e2, s1, s2, k⟩ => ?_)⟩
  subst e1 e2
  cases q1
  cases q2
  exact ⟨i, j, rfl, ⟨s1.1, s1.2, s2.1, s2.2⟩, k _ H2 (x1.trans x2) r2 itok_rng⟩
theorem itok_enuL {H0 : Hp} {a : Addr} {xs : List D} : ItOk C H0 (Ite C.K a) (enuL xs) (fun S => S a = some (.lst xs)) := by
  have hl : (enuL xs).length = xs.length := by unfold enuL; rw [List.length_zipWith, List.length_range, Nat.min_self]
  refine ⟨fun H => ∃ vs, SqL C.K H a vs ∧ RVs C.K H vs xs, fun i H x H' => ∃ T y, x = .ref T ∧ H T = none ∧ H' = L2.upd H T (.tup [.int (i : Nat), y]) ∧ ∃ vs, RVs C.K H vs xs ∧ vs[i]? = some y, ⟨fun i H hi ⟨vs, h, r⟩ => ?_, fun H ⟨vs, h, r⟩ => ?_, fun i H x H' hi ⟨vs, h, r⟩ y => ?_⟩, fun H S _ ok g => ?_, fun i H S x H' hi _ ok g ⟨T, y, e1, e2, e3, vs, r, h⟩ => ?_⟩
  · have h2 : i < vs.length := by rw [r.length, ← hl]; exact hi
    exact ⟨vs, vs[i], h, List.getElem?_eq_getElem h2⟩
  · exact ⟨vs, h, by rw [hl]; exact Nat.le_of_eq r.length⟩
  · obtain ⟨T, z, e1, e2, e3, f⟩ := y
    exact ⟨T, z, e1, e2, e3, vs, r, f vs h⟩
  · obtain ⟨vs, e, r⟩ := ok.lst g
    exact ⟨vs, .of e, r⟩
  · subst e1 e3
    obtain ⟨d, e, q⟩ := r.get' h
    have x1 : Ext C.K H (L2.upd H T (.tup [.int (i : Nat), y])) := Ext.new e2
    refine ⟨x1, ok.new0 e2, .tup [.int (i : Nat), d], ?_, .tup (SqT.of upd_same) (.cons (.int _) (.cons (q.ext x1) .nil))⟩
    unfold enuL
    rw [List.getElem?_zipWith, List.getElem?_range (by rw [← hl]; exact hi), e]
theorem itok_enuRo {H0 : Hp} {a : Addr} {vs : List V} {xs : List D} (t : RoL C.K H0 a vs) (r : RVs C.K H0 vs xs) : ItOk C H0 (Ite C.K a) (enuL xs) (fun _ => True) := by
  have hl : (enuL xs).length = xs.length := by unfold enuL; rw [List.length_zipWith, List.length_range, Nat.min_self]
  refine ⟨fun H => SqL C.K H a vs, YPair (fun i => some (.int (i : Nat))) (fun i => vs[i]?), ⟨fun i H hi h => ?_, fun H h => ?_, fun i H x H' hi h y => ?_⟩, fun H S x _ _ => ((x a vs).2.1 t).sq, fun i H S x H' hi xt ok _ ⟨T, x1, y1, e1, e2, e3, f1, f2⟩ => ?_⟩
  · have h2 : i < vs.length := by rw [r.length, ← hl]; exact hi
    exact ⟨vs, vs[i], h, List.getElem?_eq_getElem h2⟩
  · exact ⟨vs, h, by rw [hl]; exact Nat.le_of_eq r.length⟩
  · obtain ⟨T, z, e1, e2, e3, f⟩ := y
    exact ⟨T, .int (i : Nat), z, e1, e2, e3, rfl, f vs h⟩
  · subst e1 e3
    cases f1
    obtain ⟨d, e, q⟩ := (r.ext xt).get' f2
    have x2 : Ext C.K H (L2.upd H T (.tup [.int (i : Nat), y1])) := Ext.new e2
    refine ⟨x2, ok.new0 e2, .tup [.int (i : Nat), d], ?_, .tup (SqT.of upd_same) (.cons (.int _) (.cons (q.ext x2) .nil))⟩
    unfold enuL
    rw [List.getElem?_zipWith, List.getElem?_range (by rw [← hl]; exact hi), e]
theorem itok_enuT {H0 : Hp} {a : Addr} {vs : List V} {xs : List D} (t : SqT C.K H0 a vs) (r : RVs C.K H0 vs xs) : ItOk C H0 (ItE C.K a) (enuL xs) (fun _ => True) := by
  have hl : (enuL xs).length = xs.length := by unfold enuL; rw [List.length_zipWith, List.length_range, Nat.min_self]
  refine ⟨fun H => SqT C.K H a vs, YPair (fun i => some (.int (i : Nat))) (fun i => vs[i]?), ⟨fun i H hi h => ?_, fun H h => ?_, fun i H x H' hi h y => ?_⟩, fun H S x _ _ => (x a vs).1 t, fun i H S x H' hi xt ok _ ⟨T, x1, y1, e1, e2, e3, f1, f2⟩ => ?_⟩
  · have h2 : i < vs.length := by rw [r.length, ← hl]; exact hi
    exact ⟨vs, vs[i], h, List.getElem?_eq_getElem h2⟩
  · exact ⟨vs, h, by rw [hl]; exact r.length⟩
  · obtain ⟨T, z, e1, e2, e3, f⟩ := y
    exact ⟨T, .int (i : Nat), z, e1, e2, e3, rfl, f vs h⟩
  · subst e1 e3
    cases f1
    obtain ⟨d, e, q⟩ := (r.ext xt).get' f2
    have x2 : Ext C.K H (L2.upd H T (.tup [.int (i : Nat), y1])) := Ext.new e2
    refine ⟨x2, ok.new0 e2, .tup [.int (i : Nat), d], ?_, .tup (SqT.of upd_same) (.cons (.int _) (.cons (q.ext x2) .nil))⟩
    unfold enuL
    rw [List.getElem?_zipWith, List.getElem?_range (by rw [← hl]; exact hi), e]
include hK in
theorem i_enu {a : Expr} {p pos tpos : Pos} {elts : List Expr} {kk : Nat} {wa : WE} (hg : Gl X "enumerate") (hm : X.mg "enumerate" = none) (ha : PE X a (LE C W wa)) (ma : MonoE wa) (h1 : notStar a = true) :
    PI X (.Tuple elts kk tpos) (.Call (.Name "enumerate" p) [a] [] pos) (LI C W fun env S K E => wa env S (fun x S1 => (∃ xs, (x = .tup xs ∨ x = .rl xs) ∧ K (enuL xs) (fun _ => True) S1) ∨
      (∃ a xs, x = .ref a ∧ S1 a = some (.lst xs) ∧ K (enuL xs) (fun S' => S' a = some (.lst xs)) S1)) E) := by
  refine ⟨fun pins s σ H R I ⟨env, S, r, q⟩ => (pi_enu hg hm (pa_cons ha pa_nil (star1 h1)) (star1 h1)).run pins s σ H R I (LE.use ma r q (fun _ _ z => z) fun d S1 v H1 x1 r1 q1 k => ?_)⟩
  rcases k with ⟨xs, e, k⟩ | ⟨b, xs, e, e2, k⟩
  · rcases e with e | e
    · subst e
      cases q1 with
      | tup t rr => exact ⟨_, _, rfl, .inr ⟨hK ▸ t, hK ▸ k _ H1 x1 r1 (itok_enuT t rr)⟩⟩
    · subst e
      cases q1 with
      | rl t rr => exact ⟨_, _, rfl, .inl ⟨hK ▸ t.sq, hK ▸ k _ H1 x1 r1 (itok_enuRo t rr)⟩⟩
  · subst e
    cases q1
    obtain ⟨vs, e3, rr⟩ := r1.2.2.lst e2
    exact ⟨b, vs, rfl, .inl ⟨.of e3, hK ▸ k _ H1 x1 r1 itok_enuL⟩⟩
theorem zipL_len {xs ys : List D} : (zipL xs ys).length = min xs.length ys.length := by unfold zipL; rw [List.length_zipWith]
theorem itok_zipL {H0 : Hp} {a b : Addr} {xs ys : List D} : ItOk C H0 (Itz C.K a b) (zipL xs ys) (fun S => S a = some (.lst xs) ∧ S b = some (.lst ys)) := by
  refine ⟨fun H => ∃ vs us, SqL C.K H a vs ∧ RVs C.K H vs xs ∧ SqL C.K H b us ∧ RVs C.K H us ys, fun i H x H' => ∃ T y z, x = .ref T ∧ H T = none ∧ H' = L2.upd H T (.tup [y, z]) ∧ ∃ vs us, RVs C.K H vs xs ∧ vs[i]? = some y ∧ RVs C.K H us ys ∧ us[i]? = some z, ⟨fun i H hi ⟨vs, us, h, r, h', r'⟩ => ?_, fun H ⟨vs, us, h, r, h', r'⟩ => ?_, fun i H x H' hi ⟨vs, us, h, r, h', r'⟩ y => ?_⟩, fun H S _ ok g => ?_, fun i H S x H' hi _ ok g ⟨T, y, z, e1, e2, e3, vs, us, r, h, r', h'⟩ => ?_⟩
  · rw [zipL_len, ← r.length, ← r'.length] at hi
    have h2 : i < vs.length := Nat.lt_of_lt_of_le hi (Nat.min_le_left _ _)
    have h3 : i < us.length := Nat.lt_of_lt_of_le hi (Nat.min_le_right _ _)
    exact ⟨vs, us, vs[i], us[i], h, h', List.getElem?_eq_getElem h2, List.getElem?_eq_getElem h3⟩
  · refine ⟨vs, us, h, h', ?_⟩
    rw [zipL_len, r.length, r'.length]
    omega
  · obtain ⟨T, y, z, e1, e2, e3, f, f'⟩ := y
    exact ⟨T, y, z, e1, e2, e3, vs, us, r, f vs h, r', f' us h'⟩
  · obtain ⟨vs, e, r⟩ := ok.lst g.1
    obtain ⟨us, e', r'⟩ := ok.lst g.2
    exact ⟨vs, us, .of e, r, .of e', r'⟩
  · subst e1 e3
    obtain ⟨d, e, q⟩ := r.get' h
    obtain ⟨d', e', q'⟩ := r'.get' h'
    have x1 : Ext C.K H (L2.upd H T (.tup [y, z])) := Ext.new e2
    refine ⟨x1, ok.new0 e2, .tup [d, d'], ?_, .tup (SqT.of upd_same) (.cons (q.ext x1) (.cons (q'.ext x1) .nil))⟩
    unfold zipL
    rw [List.getElem?_zipWith, e, e']
theorem itok_zipT {H0 : Hp} {a b : Addr} {vs us : List V} {xs ys : List D} (t : SqT C.K H0 a vs) (r : RVs C.K H0 vs xs) (t' : SqT C.K H0 b us) (r' : RVs C.K H0 us ys) : ItOk C H0 (RZ.ItzT C.K a b) (zipL xs ys) (fun _ => True) := by
  refine ⟨fun H => SqT C.K H a vs ∧ SqT C.K H b us, YPair (fun i => vs[i]?) (fun i => us[i]?), ⟨fun i H hi h => ?_, fun H h => ?_, fun i H x H' hi h y => ?_⟩, fun H S x _ _ => ⟨(x a vs).1 t, (x b us).1 t'⟩, fun i H S x H' hi xt ok _ ⟨T, y, z, e1, e2, e3, f1, f2⟩ => ?_⟩
  · rw [zipL_len, ← r.length, ← r'.length] at hi
    have h2 : i < vs.length := Nat.lt_of_lt_of_le hi (Nat.min_le_left _ _)
    have h3 : i < us.length := Nat.lt_of_lt_of_le hi (Nat.min_le_right _ _)
    exact ⟨vs, us, vs[i], us[i], h.1, h.2, List.getElem?_eq_getElem h2, List.getElem?_eq_getElem h3⟩
  · refine ⟨vs, us, h.1, h.2, ?_⟩
    rw [zipL_len, r.length, r'.length]
    omega
  · obtain ⟨T, y, z, e1, e2, e3, f, f'⟩ := y
    exact ⟨T, y, z, e1, e2, e3, f vs h.1, f' us h.2⟩
  · subst e1 e3
    obtain ⟨d, e, q⟩ := (r.ext xt).get' f1
    obtain ⟨d', e', q'⟩ := (r'.ext xt).get' f2
    have x2 : Ext C.K H (L2.upd H T (.tup [y, z])) := Ext.new e2
    refine ⟨x2, ok.new0 e2, .tup [d, d'], ?_, .tup (SqT.of upd_same) (.cons (q.ext x2) (.cons (q'.ext x2) .nil))⟩
    unfold zipL
    rw [List.getElem?_zipWith, e, e']
include hK in
theorem i_zip {a b : Expr} {p pos tpos : Pos} {elts : List Expr} {kk : Nat} {wa wb : WE} (hg : Gl X "zip") (hm : X.mg "zip" = none) (ha : PE X a (LE C W wa)) (hb : PE X b (LE C W wb)) (ma : MonoE wa) (mb : MonoE wb) (h1 : notStar a = true) (h2 : notStar b = true) :
    PI X (.Tuple elts kk tpos) (.Call (.Name "zip" p) [a, b] [] pos) (LI C W fun env S K E => wa env S (fun x S1 => wb env S1 (fun y S2 => wpZip x y S2 fun xs g => K xs g S2) E) E) := by
  refine ⟨fun pins s σ H R I ⟨env, S, r, q⟩ => (RZ.pi_zipA hg hm (pa_cons ha (pa_cons hb pa_nil (star1 h2)) (star1 h1)) (star1 h1) (starAll (es := [b]) (by rw [List.all_cons, h2]; rfl))).run pins s σ H R I (LE.use ma r q (fun _ _ z => z) fun d S1 v H1 x1 r1 q1 k1 =>
    LE.use mb r1 k1 (XW.ext x1) fun d2 S2 v2 H2 x2 r2 q2 k => ?_)⟩
  rcases k with ⟨xs, ys, e1, e2, k⟩ | ⟨a', b', xs, ys, e1, e2, e3, e4, k⟩
  · subst e1 e2
    cases q1 with
    | tup t rr =>
      cases q2 with
      | tup t' rr' => exact ⟨_, _, _, _, rfl, .inr ⟨hK ▸ (x2 _ _).1 t, hK ▸ t', hK ▸ k _ H2 (x1.trans x2) r2 (itok_zipT ((x2 _ _).1 t) (rr.ext x2) t' rr')⟩⟩
  · subst e1 e2
    cases q1
    cases q2
    obtain ⟨vs, e5, rr⟩ := r2.2.2.lst e3
    obtain ⟨us, e6, rr'⟩ := r2.2.2.lst e4
    exact ⟨_, _, _, _, rfl, .inl ⟨.of e5, .of e6, hK ▸ k _ H2 (x1.trans x2) r2 itok_zipL⟩⟩
/-! ### targets -/
def GoodT (own : List Nat) (σ σ' : St2) : Prop := wipe σ' own = wipe σ own
mutual
def tgIn (own : List Nat) : Tg → Bool
  | .nm i => own.contains i
  | .tup ts => tgsIn own ts
def tgsIn (own : List Nat) : Tgs → Bool
  | .nil => true
  | .cons t ts => tgIn own t && tgsIn own ts
end
/-- a target's reading -/
def LG (C : Cn) (t : Tg) : TG := fun v σ H Q => ∃ d env env2 S, RV C.K H v d ∧ Rl C σ H env S ∧ asgT t d env = some env2 ∧ ∀ σ2, Rl C σ2 H env2 S → (∀ own, tgIn own t = true → GoodT own σ σ2) → Q σ2 H
def LGs (C : Cn) (t : Tgs) : TGs := fun vs σ H Q => ∃ ds env env2 S, RVs C.K H vs ds ∧ Rl C σ H env S ∧ asgTs t ds env = some env2 ∧ ∀ σ2, Rl C σ2 H env2 S → (∀ own, tgsIn own t = true → GoodT own σ σ2) → Q σ2 H
theorem wipe_set {σ : St2} {i : Nat} {v : Option V} : ∀ {own : List Nat}, i ∈ own → wipe (σ.set i v) own = wipe σ own
  | [], h => by cases h
  | j :: own, h => by
    unfold wipe
    by_cases e : i ∈ own
    · rw [wipe_set e]
    · have ej : i = j := by
        rcases List.mem_cons.mp h with z | z
        · exact z
        · exact absurd z e
      subst ej
      have : ∀ (own : List Nat), i ∉ own → wipe (σ.set i v) own = (wipe σ own).set i v := by
        intro own
        induction own with
        | nil => intro _; rfl
        | cons k own ih =>
          intro hk
          unfold wipe
          rw [ih fun z => hk (List.mem_cons_of_mem _ z), List.set_comm _ _ fun z => hk (by rw [z]; exact List.mem_cons_self)]
      rw [this own e, List.set_set]
theorem g_name {i : Nat} {x : Str} {pos : Pos} (h : PG X (.Name x pos) (gName i)) : PG X (.Name x pos) (LG C (.nm i)) :=
  ⟨fun pins s σ H v u Q I rv ⟨d, env, env2, S, r, rl, e, k⟩ => h.run pins s σ H v u Q I rv (by
    cases e
    exact k _ (rl.set i r) fun own ho => wipe_set (by simpa [tgIn] using ho))⟩
theorem g_nil : PGs X [] (LGs C .nil) :=
  ⟨fun pins s σ H vs us Q I rv ⟨ds, env, env2, S, r, rl, e, k⟩ => pgs_nil.run pins s σ H vs us Q I rv (by
    cases r with
    | nil =>
      cases e
      exact ⟨rfl, k _ rl fun _ _ => rfl⟩
    | cons _ _ => cases e)⟩
theorem g_cons {e : Expr} {es : List Expr} {t : Tg} {ts : Tgs} (h1 : PG X e (LG C t)) (h2 : PGs X es (LGs C ts)) (hs : (assignEach (e :: es) X.env).map (·.2) = assign e X.env :: (assignEach es X.env).map (·.2)) : PGs X (e :: es) (LGs C (.cons t ts)) :=
  ⟨fun pins s σ H vs us Q I rv ⟨ds, env, env2, S, r, rl, ea, k⟩ => (pgs_cons h1 h2 hs).run pins s σ H vs us Q I rv (by
    cases r with
    | nil => cases ea
    | @cons v d vs ds r1 r2 =>
      simp only [asgTs] at ea
      cases e1 : asgT t d env with
      | none => rw [e1] at ea; cases ea
      | some env1 =>
        rw [e1] at ea
        refine ⟨v, vs, rfl, d, env, env1, S, r1, rl, e1, fun σ1 rl1 g1 => ⟨ds, env1, env2, S, r2, rl1, ea, fun σ2 rl2 g2 => k σ2 rl2 fun own ho => ?_⟩⟩
        unfold tgsIn at ho
        rw [Bool.and_eq_true] at ho
        exact (g2 own ho.2).trans (g1 own ho.1))⟩
include hK in
theorem g_tup {es : List Expr} {k : Nat} {pos : Pos} {ts : Tgs} (hc : X.calm = true) (h : PGs X es (LGs C ts)) (n : Nat) (hn : (assignEach es X.env).length = n) (hst : (assignEach es X.env).findIdx? (·.1) = none)
    (hl : ∀ ds env env2, asgTs ts ds env = some env2 → ds.length = n) : PG X (.Tuple es k pos) (LG C (.tup ts)) :=
  ⟨fun pins s σ H v u Q I rv ⟨d, env, env2, S, r, rl, ea, kk⟩ => (pg_tup hc h hn hst).run pins s σ H v u Q I rv (by
    unfold asgT at ea
    cases r with
    | tup t r =>
      exact ⟨_, _, rfl, hK ▸ t, by rw [r.length]; exact hl _ _ _ ea, _, env, env2, S, r, rl, ea, fun σ2 rl2 g => kk σ2 rl2 fun own ho => g own ho⟩
    | _ => cases ea)⟩
/-- a target list that takes a tuple or a list apart -/
def LGU (C : Cn) (ts : Tgs) : TG := fun v σ H Q => ∃ d env env2 S, RV C.K H v d ∧ Rl C σ H env S ∧ (asgT (.tup ts) d env = some env2 ∨ ∃ a xs, d = .ref a ∧ S a = some (.lst xs) ∧ asgTs ts xs env = some env2) ∧ ∀ σ2, Rl C σ2 H env2 S → Q σ2 H
include hK in
theorem g_tupU {es : List Expr} {k : Nat} {pos : Pos} {ts : Tgs} (hc : X.calm = true) (h : PGs X es (LGs C ts)) (n : Nat) (hn : (assignEach es X.env).length = n) (hst : (assignEach es X.env).findIdx? (·.1) = none)
    (hl : ∀ ds env env2, asgTs ts ds env = some env2 → ds.length = n) : PG X (.Tuple es k pos) (LGU C ts) :=
  ⟨fun pins s σ H v u Q I rv ⟨d, env, env2, S, r, rl, ea, kk⟩ => by
    rcases ea with ea | ⟨a, xs, rfl, e1, ea⟩
    · exact (g_tup hK hc h n hn hst hl).run pins s σ H v u Q I rv ⟨d, env, env2, S, r, rl, ea, fun σ2 rl2 _ => kk σ2 rl2⟩
    · obtain ⟨vs, e2, q⟩ := rl.2.2.lst e1
      cases r
      exact (pg_lst hc h hn hst).run pins s σ H _ u Q I rv ⟨_, vs, rfl, .of e2, by rw [q.length]; exact hl _ _ _ ea, xs, env, env2, S, q, rl, ea, fun σ2 rl2 _ => kk σ2 rl2⟩⟩
/-! ### comprehensions -/
theorem Rl.wipe {σ : St2} {H : Hp} {env : Env} {S : Store} (r : Rl C σ H env S) : ∀ (own : List Nat), Rl C (L2.wipe σ own) H (wipeE env own) S
  | [] => r
  | i :: own => by
    have ih := Rl.wipe r own
    unfold L2.wipe wipeE
    refine ⟨by rw [List.length_set, List.length_set]; exact ih.1, fun j d hj => ?_, r.2.2⟩
    by_cases e : i = j
    · subst e
      by_cases hl : i < (wipeE env own).length
      · rw [List.getElem?_set_self hl] at hj; cases hj
      · rw [List.getElem?_eq_none (by rw [List.length_set]; omega)] at hj; cases hj
    · rw [List.getElem?_set_ne e] at hj ⊢
      exact ih.2.1 j d hj
theorem wipe_wipe {σ : St2} : ∀ (own : List Nat), L2.wipe (L2.wipe σ own) own = L2.wipe σ own := by
  have out : ∀ (own l : List Nat) (σ : St2), (∀ i ∈ own, i ∈ l) → L2.wipe (L2.wipe σ own) l = L2.wipe σ l := by
    intro own
    induction own with
    | nil => intro l σ _; rfl
    | cons i own ih =>
      intro l σ h
      show L2.wipe ((L2.wipe σ own).set i none) l = _
      rw [wipe_set (h i List.mem_cons_self)]
      exact ih l σ fun j hj => h j (List.mem_cons_of_mem _ hj)
  exact fun own => out own own σ fun _ h => h
def noW : WX := fun _ _ _ _ => False
theorem drop_cons {α : Type} {l : List α} {i : Nat} {d : α} (h : l[i]? = some d) : l.drop i = d :: l.drop (i + 1) := by
  obtain ⟨hl, e⟩ := List.getElem?_eq_some_iff.mp h
  rw [List.drop_eq_getElem_cons hl, e]
theorem compLoop_guard {guard : Store → Prop} {G : D → Option Env} {C V : Env → Store → PQ → Prop} {p : Addr} {Q : Store → Prop} : ∀ {items : List D} {S : Store}, compLoop guard G C V p Q items S → guard S
  | [], _, h => h.1
  | _ :: _, _, h => h.1
theorem s_comp {elt iter tgE : Expr} {ifs : List Expr} {scope : Scope} {own : List (Str × Nat)} {t : Tg} {wi : WI} {wc wv : WE} (hc : X.calm = true) (hN : X.N.Nodup)
    (hi : PI X tgE iter (LI C W wi)) (mi : MonoI wi) (ok : BlkOk X.N X.env.scope scope own)
    (hg : ∀ (s : Shared) (H : Hp) (a : Addr) (cl : List (Str × Addr)) (fp : List Addr), PG (X.blk s H scope (compEnvC scope cl a X.env) fp) tgE (LG C t))
    (ht : ∀ (s : Shared) (H : Hp) (a : Addr) (cl : List (Str × Addr)) (fp : List Addr), PTs (X.blk s H scope (compEnvC scope cl a X.env) fp) ifs (LT C noW wc))
    (he : ∀ (s : Shared) (H : Hp) (a : Addr) (cl : List (Str × Addr)) (fp : List Addr), PE (X.blk s H scope (compEnvC scope cl a X.env) fp) elt (LE C noW wv))
    (mc : MonoE wc) (mv : MonoE wv) (hin : tgIn (own.map (·.2)) t = true) : ∀ σ H Q, LE C W (fun env S Q E => wi env S (fun items guard S1 => ∀ p, S1 p = none →
      Hold (compLoop guard (fun d => asgT t d (wipeE env (own.map (·.2)))) (fun env S Q => wc env S Q noX) (fun env S Q => wv env S Q noX) p (Q (.ref p)) items (S1.upd p (.lst [])))) E) σ H Q →
      tLc (LI C W wi) (LG C t) (LT C noW wc) (LE C noW wv) (own.map (·.2)) σ H Q := fun σ H Q ⟨env, S, r, q⟩ => by
  refine ⟨env, S, r, mi _ _ _ _ _ _ (fun items guard S1 k J H1 x1 r1 ⟨G, Y, hw, hG, hY⟩ p hp => ?_) (fun _ _ z => z) q⟩
  have k0 := (k p (r1.2.2.none_of hp)).out
  have xp : Ext C.K H1 (L2.upd H1 p (.lst [])) := Ext.new hp
  refine lc_it hw (fun i H' => ∃ S', Ext C.K H1 H' ∧ Rl C (L2.wipe σ (own.map (·.2))) H' (wipeE env (own.map (·.2))) S' ∧ compLoop guard (fun d => asgT t d (wipeE env (own.map (·.2)))) (fun env S Q => wc env S Q noX) (fun env S Q => wv env S Q noX) p (QV C H Q (.ref p)) (items.drop i) S')
    ⟨_, xp, (r1.wipe _).ext xp (r1.2.2.new (c := .lst []) hp ⟨[], upd_same, .nil⟩), k0⟩ (fun i H' _ ⟨S', x', r', k'⟩ => hG H' S' x' r'.2.2 (compLoop_guard k')) (fun i x H2 H3 hi' ⟨S', x', r', k'⟩ y => ?_) fun H' ⟨S', x', r', k'⟩ => ?_
  · obtain ⟨x3, ok3, d, ed, rv⟩ := hY i H2 S' x H3 hi' x' r'.2.2 (compLoop_guard k') y
    rw [drop_cons ed] at k'
    obtain ⟨_, env2, e2, k'⟩ := k'
    refine ⟨d, _, env2, S', rv, r'.ext x3 ok3, e2, fun σ2 r2 good => ⟨(good _ hin).trans (wipe_wipe _), env2, S', r2, mc _ _ _ _ _ _ (fun b S3 ⟨c, ec, z⟩ => ⟨c, ec, fun H4 x4 ok4 => ?_⟩) (fun _ _ z => z.elim) k'⟩⟩
    have x34 : Ext C.K H1 H4 := x'.trans (x3.trans x4)
    cases c with
    | false => exact ⟨S3, x34, r'.ext (x3.trans x4) ok4, z⟩
    | true =>
      refine ⟨env2, S3, r2.ext x4 ok4, mv _ _ _ _ _ _ (fun yd S5 z5 v5 H5 x5 ok5 rv5 => ?_) (fun _ _ z => z.elim) z⟩
      obtain ⟨acc, ea, hl, z5⟩ := z5
      obtain ⟨vs, eh, rs⟩ := ok5.lst ea
      have w := ok5.put (p := p) (o := .lst (vs ++ [v5])) (c := .lst (acc ++ [yd])) ea
      obtain ⟨u, hu, hn⟩ := (ok5 p _ ea).ups
      have xx : Ext C.K H5 (L2.upd H5 p (.lst (vs ++ [v5]))) := Ext.at hu hn
      refine ⟨vs, eh, by rw [rs.length]; exact hl, _, x34.trans (x5.trans xx), r'.ext (x3.trans (x4.trans (x5.trans xx))) (w ⟨_, upd_same, (rs.ext xx).append (.cons (rv5.ext xx) .nil)⟩).2, z5⟩
  · rw [List.drop_length] at k'
    exact k'.2 _ _ (x1.trans x') r'.2.2 (.ref p)
end
end SW
/-! SW, part J: statements. -/
namespace SW
open PySem PySem.Spec PyProof.Rows L2
abbrev WS := Env → Store → Kt → Prop
def MonoS (w : WS) : Prop := ∀ env S K K', Kt.le K K' → w env S K → w env S K'
def KD (C : Cn) (W : WX) (H : Hp) (D : Ends) : Kt where
  nx := fun env' S' => ∀ σ' H', Ext C.K H H' → Rl C σ' H' env' S' → D.nx σ' H'
  rt := QV C H D.rt
  bk := fun env' S' => ∀ σ' H', Ext C.K H H' → Rl C σ' H' env' S' → D.bk σ' H'
  ct := fun env' S' => ∀ σ' H', Ext C.K H H' → Rl C σ' H' env' S' → D.ct σ' H'
  ex := fun env' c S' => ∀ σ' H', Ext C.K H H' → Rl C σ' H' env' S' → W (.ref (C.ca c)) none σ' H'
theorem KD.ext {C : Cn} {W : WX} {H H' : Hp} {D : Ends} (x : Ext C.K H H') : Kt.le (KD C W H D) (KD C W H' D) :=
  ⟨fun _ _ h σ H2 x2 r => h σ H2 (x.trans x2) r, fun _ _ h => h.ext x, fun _ _ h σ H2 x2 r => h σ H2 (x.trans x2) r, fun _ _ h σ H2 x2 r => h σ H2 (x.trans x2) r, fun _ _ _ h σ H2 x2 r => h σ H2 (x.trans x2) r⟩
theorem kxw {C : Cn} {W : WX} {H0 H : Hp} {D : Ends} {σ : St2} {env : Env} {S : Store} (x0 : Ext C.K H0 H) (r : Rl C σ H env S) : ∀ c S', (KD C W H0 D).ex env c S' → XW C W σ H c S' := fun _ _ z H' x ok => z σ H' (x0.trans x) (r.ext x ok)
theorem kx {C : Cn} {W : WX} {H : Hp} {D : Ends} {σ : St2} {env : Env} {S : Store} (r : Rl C σ H env S) : ∀ c S', (KD C W H D).ex env c S' → XW C W σ H c S' := kxw Ext.refl r
theorem kxx {C : Cn} {W : WX} {H H1 : Hp} {D : Ends} {σ : St2} {env : Env} {S : Store} (r : Rl C σ H env S) (x1 : Ext C.K H H1) : ∀ c S', (KD C W H D).ex env c S' → XW C W σ H1 c S' := fun c S' z => XW.ext x1 c S' (kx r c S' z)
def LS (C : Cn) (W : WX) (w : WS) : TS := fun D σ H => ∃ env S, Rl C σ H env S ∧ w env S (KD C W H D)
theorem _root_.L2.PS.mono {X : Cx} {s : Stmt} {t t' : TS} (h : PS X s t) (m : ∀ D σ H, t' D σ H → t D σ H) : PS X s t' := ⟨fun pins s σ H D I q => h.run pins s σ H D I (m D σ H q)⟩
theorem _root_.L2.PSs.mono {X : Cx} {s : List Stmt} {t t' : TS} (h : PSs X s t) (m : ∀ D σ H, t' D σ H → t D σ H) : PSs X s t' := ⟨fun pins s σ H D I q => h.run pins s σ H D I (m D σ H q)⟩
section
variable {X : Cx} {C : Cn} {W : WX} (hK : X.K = C.K)
theorem t_nil : PSs X [] (LS C W fun env S K => K.nx env S) := pss_nil.mono fun D σ H ⟨env, S, r, q⟩ => q σ H Ext.refl r
theorem t_cons {s : Stmt} {ss : List Stmt} {w ws : WS} (h : PS X s (LS C W w)) (hs : PSs X ss (LS C W ws)) (m : MonoS w) (ms : MonoS ws) : PSs X (s :: ss) (LS C W fun env S K => w env S { K with nx := fun env' S' => ws env' S' K }) :=
  (pss_cons h hs).mono fun D σ H ⟨env, S, r, q⟩ => ⟨env, S, r, by
    refine m _ _ _ _ ?_ q
    exact ⟨fun env' S' z σ' H' x r' => ⟨env', S', r', ms _ _ _ _ (KD.ext x) z⟩, fun _ _ z => z, fun _ _ z => z, fun _ _ z => z, fun _ _ _ z => z⟩⟩
theorem t_pass {pos : Pos} : PS X (.Pass pos) (LS C W fun env S K => K.nx env S) := ps_pass.mono fun D σ H ⟨env, S, r, q⟩ => q σ H Ext.refl r
theorem t_brk {pos : Pos} : PS X (.Break pos) (LS C W fun env S K => K.bk env S) := ps_break.mono fun D σ H ⟨env, S, r, q⟩ => q σ H Ext.refl r
theorem t_cont {pos : Pos} : PS X (.Continue pos) (LS C W fun env S K => K.ct env S) := ps_continue.mono fun D σ H ⟨env, S, r, q⟩ => q σ H Ext.refl r
theorem t_ret {e : Expr} {pos : Pos} {we : WE} (he : PE X e (LE C W we)) (me : MonoE we) : PS X (.Return (some e) pos) (LS C W fun env S K => we env S K.rt (K.ex env)) := (ps_ret he).mono fun D σ H ⟨env, S, r, q⟩ => LE.use me r q (kx r) fun d S1 v H1 x1 r1 q1 k => QV.at (QV.ext x1 _ _ k) r1.2.2 q1
theorem t_retN {pos : Pos} : PS X (.Return none pos) (LS C W fun env S K => K.rt .non S) := ps_retN.mono fun D σ H ⟨env, S, r, q⟩ => QV.at q r.2.2 .non
theorem t_ex {e : Expr} {pos : Pos} {we : WE} (he : PE X e (LE C W we)) (me : MonoE we) (hs : swapsWith e none pos.line X.env = pure false) : PS X (.Expr e pos) (LS C W fun env S K => we env S (fun _ S1 => K.nx env S1) (K.ex env)) :=
  (ps_expr he hs).mono fun D σ H ⟨env, S, r, q⟩ => LE.use me r q (kx r) fun d S1 v H1 x1 r1 _ k => k σ H1 x1 r1
theorem t_ite {c : Expr} {a b : List Stmt} {pos : Pos} {wc : WE} {wa wb : WS} (hc : PT X c (LT C W wc)) (ha : PSs X a (LS C W wa)) (hb : PSs X b (LS C W wb)) (mc : MonoE wc) (ma : MonoS wa) (mb : MonoS wb) :
    PS X (.If c a b pos) (LS C W fun env S K => wc env S (fun x S1 => ∃ c, x = .bl c ∧ if c = true then wa env S1 K else wb env S1 K) (K.ex env)) :=
  (ps_if hc ha hb).mono fun D σ H ⟨env, S, r, q⟩ => LT.use mc r q (kx r) fun d S1 ⟨c, e, k⟩ => ⟨c, e, fun H1 x1 r1 => by
    cases c with
    | true => exact ⟨env, S1, r1, ma _ _ _ _ (KD.ext x1) k⟩
    | false => exact ⟨env, S1, r1, mb _ _ _ _ (KD.ext x1) k⟩⟩
theorem t_asg {tg e : Expr} {pos : Pos} {t : Tg} {we : WE} (he : PE X e (LE C W we)) (me : MonoE we) (hg : PG X tg (LG C t)) (hs : swapsWithSole [tg] e pos.line X.env = pure false) (hw : swappedStores [tg] e X.env = pure none) (h1 : (assignEach [tg] X.env).map (·.2) = [assign tg X.env]) :
    PS X (.Assign [tg] e pos) (LS C W fun env S K => we env S (fun d S1 => ∃ env2, asgT t d env = some env2 ∧ K.nx env2 S1) (K.ex env)) :=
  (ps_asg he hg hs hw h1).mono fun D σ H ⟨env, S, r, q⟩ => LE.use me r q (kx r) fun d S1 v H1 x1 r1 q1 ⟨env2, e2, k⟩ => ⟨d, env, env2, S1, q1, r1, e2, fun σ2 r2 _ => k σ2 H1 x1 r2⟩
theorem t_asgU {tg e : Expr} {pos : Pos} {ts : Tgs} {we : WE} (he : PE X e (LE C W we)) (me : MonoE we) (hg : PG X tg (LGU C ts)) (hs : swapsWithSole [tg] e pos.line X.env = pure false) (hw : swappedStores [tg] e X.env = pure none) (h1 : (assignEach [tg] X.env).map (·.2) = [assign tg X.env]) :
    PS X (.Assign [tg] e pos) (LS C W fun env S K => we env S (fun d S1 => ∃ env2, (asgT (.tup ts) d env = some env2 ∨ ∃ a xs, d = .ref a ∧ S1 a = some (.lst xs) ∧ asgTs ts xs env = some env2) ∧ K.nx env2 S1) (K.ex env)) :=
  (ps_asg he hg hs hw h1).mono fun D σ H ⟨env, S, r, q⟩ => LE.use me r q (kx r) fun d S1 v H1 x1 r1 q1 ⟨env2, e2, k⟩ => ⟨d, env, env2, S1, q1, r1, e2, fun σ2 r2 => k σ2 H1 x1 r2⟩
/-- a name that is stored: the swapped comprehension's form -/
theorem t_asgL {i : Nat} {tg e : Expr} {pos : Pos} {te : TE} {we : WE} (hp : PS X (.Assign [tg] e pos) (tAsg te (gName i))) (hq : ∀ σ H Q, LE C W we σ H Q → te σ H Q) (me : MonoE we) :
    PS X (.Assign [tg] e pos) (LS C W fun env S K => we env S (fun d S1 => ∃ env2, asgT (.nm i) d env = some env2 ∧ K.nx env2 S1) (K.ex env)) :=
  hp.mono fun D σ H ⟨env, S, r, q⟩ => hq _ _ _ (LE.use me r q (kx r) fun d S1 v H1 x1 r1 q1 ⟨env2, e2, k⟩ => by
    cases e2
    exact k _ H1 x1 (r1.set i q1))
include hK in
theorem t_asF {o e : Expr} {f : Nat} {fn : Str} {pos pos' : Pos} {wo we : WE} (F : Fcts C) (hn : C.nm f = fn) (hf : C.isF f) (ho : PE X o (LE C W wo)) (he : PE X e (LE C W we)) (mo : MonoE wo) (me : MonoE we) (hs : swapsWith e (some (.Attribute o fn pos')) pos.line X.env = pure false) :
    PS X (.Assign [.Attribute o fn pos'] e pos) (LS C W fun env S K => we env S (fun d S1 => wo env S1 (fun x S2 => ∃ p c fs, x = .ref p ∧ S2 p = some (.ins c fs) ∧ fs.length < 1000 ∧ K.nx env (S2.upd p (.ins c (putN f d fs)))) (K.ex env)) (K.ex env)) := by
  subst hn
  refine (ps_fld ho he hs).mono fun D σ H ⟨env, S, r, q⟩ => LE.use me r q (kx r) fun d S1 v H1 x1 r1 q1 k1 => LE.use mo r1 k1 (kxx r x1) fun d2 S2 v2 H2 x2 r2 q2 ⟨p, c, fs, e1, e2, hl, k⟩ => ?_
  subst e1
  cases q2
  obtain ⟨dx, fs', e3, q3, hc⟩ := r2.2.2.ins e2
  have w := r2.2.2.put (o := .ins (C.ca c) dx (putF (C.nm f) v fs')) (c := .ins c (putN f d fs)) e2
  obtain ⟨u, hu, hn⟩ := (r2.2.2 p _ e2).ups
  have xx : Ext C.K H2 (L2.upd H2 p (.ins (C.ca c) dx (putF (C.nm f) v fs'))) := Ext.at hu hn
  exact ⟨p, C.ca c, dx, fs', rfl, e3, hK ▸ F.cls c hc, hK ▸ F.noat c f hc hf, by rw [q3.length]; exact hl, k _ _ (x1.trans (x2.trans xx)) (r2.ext xx (w ⟨dx, _, upd_same, RFs.put F hf ((q1.ext x2).ext xx) (q3.ext xx), hc⟩).2)⟩
/-- a stored place of a list, of a dict -/
theorem setR (hu : X.A.units + 64 < cLine) : PSet X fun o i v H Q => ∃ dx dy dv S, RV C.K H o dx ∧ RV C.K H i dy ∧ RV C.K H v dv ∧ SOk C H S ∧
    ((∃ p xs k j, dx = .ref p ∧ S p = some (.lst xs) ∧ dy = .int k ∧ L2.ixN xs.length k = some j ∧ ∀ H', Ext C.K H H' → SOk C H' (S.upd p (.lst (xs.set j dv))) → Q H') ∨
     (∃ p kvs, dx = .ref p ∧ S p = some (.dic kvs) ∧ isKey dy = true ∧ kvs.length < sizeLine ∧ ∀ H', Ext C.K H H' → SOk C H' (S.upd p (.dic (putK dy dv kvs))) → Q H')) := by
  intro pins s σ H o i v ov iv u Q I ro ri rv h
  obtain ⟨dx, dy, dv, S, r1, r2, r3, ok, h⟩ := h
  rcases h with ⟨p, xs, k, j, rfl, e, rfl, hj, h⟩ | ⟨p, kvs, rfl, e, f, hl, h⟩
  · cases r1
    cases r2
    obtain ⟨vs, e1, q⟩ := ok.lst e
    have xx : Ext C.K H (L2.upd H p (.lst (vs.set j v))) := Ext.at e1 trivial
    exact set_list pins s σ H _ _ v ov iv u Q I ro ri rv ⟨p, vs, k, j, rfl, rfl, e1, by rw [q.length]; exact hj, h _ xx (ok.put (o := .lst (vs.set j v)) (c := .lst (xs.set j dv)) e ⟨_, upd_same, (q.ext xx).set (r3.ext xx) j⟩).2⟩
  · cases r1
    obtain ⟨ky, rfl⟩ := key_of f
    obtain ⟨l, e1, q⟩ := ok.dic e
    cases kV_of r2
    cases ro
    have xx : Ext C.K H (L2.upd H p (.dK (L2.putK l ky v))) := Ext.at e1 trivial
    exact d_setItem (by omega) I (.inl ⟨l, ky, e1, rfl, by rw [q.length]; exact hl, rfl⟩) ri rv fun s' I' => ⟨_, I', h _ xx (ok.put (o := .dK (L2.putK l ky v)) (c := .dic (putK (kD ky) dv kvs)) e ⟨_, upd_same, (q.ext xx).put (r3.ext xx)⟩).2⟩
theorem t_asS {o i e : Expr} {pos pos' : Pos} {wo wi we : WE} (hu : X.A.units + 64 < cLine) (ho : PE X o (LE C W wo)) (hi : PE X i (LE C W wi)) (he : PE X e (LE C W we)) (mo : MonoE wo) (mi : MonoE wi) (me : MonoE we)
    (hs : swapsWithSole [.Subscript o i pos'] e pos.line X.env = pure false) (hw : swappedStores [.Subscript o i pos'] e X.env = pure none)
    (ha : ∀ v, assign (.Subscript o i pos') X.env v = (do
      let ov ← holding [v] (eval o X.env)
      let iv ← holding [v, ov] (eval i X.env)
      standAt pos'
      holding [v, ov, iv] (setItem ov iv v)
      release [v, ov, iv] [])) :
    PS X (.Assign [.Subscript o i pos'] e pos) (LS C W fun env S K => we env S (fun d S1 => wo env S1 (fun x S2 => wi env S2 (fun y S3 =>
      (∃ p xs k j, x = .ref p ∧ S3 p = some (.lst xs) ∧ y = .int k ∧ L2.ixN xs.length k = some j ∧ K.nx env (S3.upd p (.lst (xs.set j d)))) ∨
      (∃ p kvs, x = .ref p ∧ S3 p = some (.dic kvs) ∧ isKey y = true ∧ kvs.length < sizeLine ∧ K.nx env (S3.upd p (.dic (putK y d kvs))))) (K.ex env)) (K.ex env)) (K.ex env)) := by
  refine (ps_asg he (pg_sub ho hi (setR (C := C) hu) ha) hs hw rfl).mono fun D σ H ⟨env, S, r, q⟩ => LE.use me r q (kx r) fun d S1 v H1 x1 r1 q1 k1 =>
    LE.use mo r1 k1 (kxx r x1) fun d2 S2 v2 H2 x2 r2 q2 k2 => LE.use mi r2 k2 (kxx r (x1.trans x2)) fun d3 S3 v3 H3 x3 r3 q3 k3 => ⟨d2, d3, d, S3, q2.ext x3, q3, q1.ext (x2.trans x3), r3.2.2, ?_⟩
  rcases k3 with ⟨p, xs, n, j, e1, e2, e3, e4, k⟩ | ⟨p, kvs, e1, e2, e3, e4, k⟩
  · exact .inl ⟨p, xs, n, j, e1, e2, e3, e4, fun H' x ok => k _ _ (x1.trans (x2.trans (x3.trans x))) (r3.ext x ok)⟩
  · exact .inr ⟨p, kvs, e1, e2, e3, e4, fun H' x ok => k _ _ (x1.trans (x2.trans (x3.trans x))) (r3.ext x ok)⟩
/-- x op= y by values -/
def RAug (C : Cn) (o : Bop) : V → V → Hp → VK → Prop := fun x y H Q => ∃ dx dy S, RV C.K H x dx ∧ RV C.K H y dy ∧ SOk C H S ∧ wpAug o dx dy fun z => QV C H Q z S
theorem aug_add : InOp X .Add (RAug C .add) := by
  intro pins s σ H x y u v Q I rx ry ⟨dx, dy, S, r1, r2, ok, h⟩
  unfold wpAug at h
  split at h <;> (try contradiction)
  · cases r1; cases r2
    exact iop_add pins s σ H _ _ u v Q I rx ry ⟨_, _, rfl, rfl, h.at ok (.int _)⟩
  · cases r1; cases r2
    exact iop_add_str pins s σ H _ _ u v Q I rx ry ⟨_, _, rfl, rfl, h.1, h.2.at ok (.str _)⟩
theorem aug_sub : InOp X .Sub (RAug C .sub) := by
  intro pins s σ H x y u v Q I rx ry ⟨dx, dy, S, r1, r2, ok, h⟩
  unfold wpAug at h
  split at h <;> (try contradiction)
  cases r1; cases r2
  exact iop_sub pins s σ H _ _ u v Q I rx ry ⟨_, _, rfl, rfl, h.at ok (.int _)⟩
theorem t_aug {i : Nat} {x : Str} {e : Expr} {op : Operator} {o : Bop} {pos pos' : Pos} {we : WE} (hop : InOp X op (RAug C o)) (hN : X.N.Nodup) (hi : X.N[i]? = some x) (hx : Loc X.env.scope x) (hf : X.fn x = true ∨ X.env.scope.names.lookup x = some .local) (he : PE X e (LE C W we)) (me : MonoE we) :
    PS X (.AugAssign (.Name x pos') op e pos) (LS C W fun env S K => ∃ d, env[i]? = some (some d) ∧ we env S (fun y S1 => wpAug o d y fun z => K.nx (env.set i (some z)) S1) (K.ex env)) :=
  (ps_aug hN hi hx he (fun pins s σ H x y u v Q I rx ry h => hop pins s σ H x y u v Q I rx ry h) hf).mono fun D σ H ⟨env, S, r, d, ed, q⟩ => by
    obtain ⟨v, a, b⟩ := r.2.1 i d ed
    exact ⟨v, a, LE.use me r q (kx r) fun y S1 v1 H1 x1 r1 q1 k1 => ⟨d, y, S1, b.ext x1, q1, r1.2.2, wpAug_mono (fun z k v' H' x' ok rv => k _ _ (x1.trans x') ((r1.ext x' ok).set i rv)) k1⟩⟩
include hK in
theorem t_auF {a e : Expr} {f : Nat} {fn : Str} {op : Operator} {o : Bop} {pos tpos : Pos} {wa we : WE} (F : Fcts C) (hn : C.nm f = fn) (hf : C.isF f) (hop : InOp X op (RAug C o)) (ha : PE X a (LE C W wa)) (he : PE X e (LE C W we)) (ma : MonoE wa) (me : MonoE we) :
    PS X (.AugAssign (.Attribute a fn tpos) op e pos) (LS C W fun env S K => wa env S (fun x S1 => ∃ p c fs v, x = .ref p ∧ S1 p = some (.ins c fs) ∧ fs.lookup f = some v ∧
      we env S1 (fun y S2 => wpAug o v y fun z => ∃ fs', S2 p = some (.ins c fs') ∧ fs'.length < 1000 ∧ K.nx env (S2.upd p (.ins c (putN f z fs')))) (K.ex env)) (K.ex env)) := by
  subst hn
  refine (ps_fldaug ha he hop).mono fun D σ H ⟨env, S, r, q⟩ => LE.use ma r q (kx r) fun d S1 v H1 x1 r1 q1 ⟨p, c, fs, v0, e1, e2, e3, k1⟩ => ?_
  subst e1
  cases q1
  obtain ⟨dx, fs', e4, q4, hc⟩ := r1.2.2.ins e2
  obtain ⟨w, e5, q5⟩ := RFs.get F hf q4 e3
  refine ⟨p, C.ca c, dx, fs', w, rfl, e4, hK ▸ F.cls c hc, hK ▸ F.noat c f hc hf, e5, LE.use me r1 k1 (kxx r x1) fun y S2 v2 H2 x2 r2 q2 k2 => ⟨v0, y, S2, q5.ext x2, q2, r2.2.2, wpAug_mono (fun z ⟨gs, e6, hl, k⟩ v' H' x' ok rv => ?_) k2⟩⟩
  obtain ⟨dx', gs', e7, q7, _⟩ := ok.ins e6
  have w := ok.put (o := .ins (C.ca c) dx' (putF (C.nm f) v' gs')) (c := .ins c (putN f z gs)) e6
  have xx : Ext C.K H' (L2.upd H' p (.ins (C.ca c) dx' (putF (C.nm f) v' gs'))) := Ext.at e7 trivial
  exact ⟨dx', gs', e7, by rw [q7.length]; exact hl, k _ _ (x1.trans (x2.trans (x'.trans xx))) ((r2.ext x' ok).ext xx (w ⟨dx', _, upd_same, RFs.put F hf (rv.ext xx) (q7.ext xx), hc⟩).2)⟩
/-- x[y], by values -/
theorem getR (hu : X.A.units + 64 < cLine) : PGet X fun o i H Q => ∃ dx dy S, RV C.K H o dx ∧ RV C.K H i dy ∧ SOk C H S ∧ wpGx dx dy S fun d => ∀ v, RV C.K H v d → Q v H := by
  intro pins s σ H o i ov iv Q I ro ri h
  obtain ⟨dx, dy, S, r1, r2, ok, h⟩ := h
  rcases h with ⟨p, xs, k, d, rfl, e, rfl, ei, h⟩ | ⟨p, kvs, d, rfl, e, f, eg, h⟩
  · cases r1
    cases r2
    obtain ⟨vs, e1, q⟩ := ok.lst e
    obtain ⟨w, ew, rw1⟩ := q.atI ei
    cases ro
    obtain ⟨t, rfl⟩ := ri
    obtain ⟨its, r, pl, hz⟩ := I.list (.of e1)
    obtain ⟨j, h1, h2, h3, h4, h5⟩ := atI_get ew
    obtain ⟨w2, ew2, rw2⟩ := r.get h2
    have hl := r.length
    have hn := line63
    have fin : EP X pins σ Q w2 s := ⟨w, H, I, rw2, h w rw1⟩
    by_cases h0 : 0 ≤ k
    · have hj : k.toNat = j := by
        rw [seqIndex_of h0 h5] at h1
        exact Option.some.inj h1
      exact wpAny_getItem_list pl.isList h0 (by omega) (by rw [hj]; simpa using ew2) fin
    · have hj : (k + (its.toArray.size : Int)).toNat = j := by
        rw [seqIndex_neg (by omega) h4] at h1
        rw [List.size_toArray, ← hl]
        exact Option.some.inj h1
      exact wpAny_getItem_list_neg pl.isList (by omega) (by rw [List.size_toArray] <;> omega) (by omega) (by rw [hj]; simpa using ew2) fin
  · cases r1
    obtain ⟨ky, rfl⟩ := key_of f
    have e0 := kV_of r2
    subst e0
    cases ro
    obtain ⟨l, e1, rl⟩ := ok.dic e
    obtain ⟨w, ew, rw1⟩ := rl.val eg
    exact d_getItem (by omega) I (.inl ⟨l, ky, .of e1, rfl, ew.symm⟩) ri fun w' s' I' rw2 => ⟨w, H, I', rw2, h w rw1⟩
theorem t_auS {a i e : Expr} {op : Operator} {o : Bop} {pos tpos : Pos} {wa wi we : WE} (hu : X.A.units + 64 < cLine) (hop : InOp X op (RAug C o)) (ha : PE X a (LE C W wa)) (hi : PE X i (LE C W wi)) (he : PE X e (LE C W we)) (ma : MonoE wa) (mi : MonoE wi) (me : MonoE we)
    (hs : ∀ ov iv new, augStore i ov iv new = (do holding [new, ov, iv] (setItem ov iv new); release [new, ov, iv] []; pure .next)) :
    PS X (.AugAssign (.Subscript a i tpos) op e pos) (LS C W fun env S K => wa env S (fun x S1 => wi env S1 (fun y S2 => wpGx x y S2 fun v => we env S2 (fun w S3 => wpAug o v w fun z =>
      (∃ p xs k j, x = .ref p ∧ S3 p = some (.lst xs) ∧ y = .int k ∧ L2.ixN xs.length k = some j ∧ K.nx env (S3.upd p (.lst (xs.set j z)))) ∨
      (∃ p kvs, x = .ref p ∧ S3 p = some (.dic kvs) ∧ isKey y = true ∧ kvs.length < sizeLine ∧ K.nx env (S3.upd p (.dic (putK y z kvs))))) (K.ex env)) (K.ex env)) (K.ex env)) := by
  refine (ps_augS ha hi (getR (C := C) hu) he (fun pins s σ H x y u v Q I rx ry h => hop pins s σ H x y u v Q I rx ry h) (setR (C := C) hu) hs).mono fun D σ H ⟨env, S, r, q⟩ => LE.use ma r q (kx r) fun x S1 v1 H1 x1 r1 q1 k1 =>
    LE.use mi r1 k1 (kxx r x1) fun y S2 v2 H2 x2 r2 q2 k2 => ⟨x, y, S2, q1.ext x2, q2, r2.2.2, wpGx_mono (fun d k3 v3 q3 => LE.use me r2 k3 (kxx r (x1.trans x2)) fun w S3 v4 H3 x3 r3 q4 k4 => ⟨d, w, S3, q3.ext x3, q4, r3.2.2, wpAug_mono (fun z k5 v' H' x' ok rv => ⟨x, y, z, S3, (q1.ext x2).ext (x3.trans x'), q2.ext (x3.trans x'), rv, ok, ?_⟩) k4⟩) k2⟩
  rcases k5 with ⟨p, xs, n, j, e1, e2, e3, e4, k⟩ | ⟨p, kvs, e1, e2, e3, e4, k⟩
  · exact .inl ⟨p, xs, n, j, e1, e2, e3, e4, fun H'' x'' ok'' => k _ _ (x1.trans (x2.trans (x3.trans (x'.trans x'')))) (r3.ext (x'.trans x'') ok'')⟩
  · exact .inr ⟨p, kvs, e1, e2, e3, e4, fun H'' x'' ok'' => k _ _ (x1.trans (x2.trans (x3.trans (x'.trans x'')))) (r3.ext (x'.trans x'') ok'')⟩
theorem t_while {c : Expr} {body : List Stmt} {pos : Pos} {wc : WE} {wb : WS} (hp : PassesOwn (model X.prog X.w) X.A X.env X.xe) (hc : PT X c (LT C W wc)) (hb : PSs X body (LS C W wb)) (mc : MonoE wc) (mb : MonoS wb) :
    PS X (.While c body [] pos) (LS C W fun env S K => Hold (∃ n, whileN (fun env S Q => wc env S Q (K.ex env)) wb K n env S)) := by
  refine (ps_while hp hc hb).mono fun D σ H ⟨env, S, r, _, n, q⟩ => ?_
  refine ⟨fun m σ' H' => ∃ env' S', Ext C.K H H' ∧ Rl C σ' H' env' S' ∧ whileN (fun env S Q => wc env S Q ((KD C W H D).ex env)) wb (KD C W H D) m env' S', ⟨n, env, S, Ext.refl, r, q⟩, ?_⟩
  rintro m σ' H' ⟨env', S', x, r', k⟩
  cases m with
  | zero => exact k.elim
  | succ m =>
    refine LT.use mc r' k (kxw x r') fun d S1 ⟨b, e, k⟩ => ⟨b, e, fun H1 x1 r1 => ?_⟩
    cases b with
    | true =>
      refine ⟨fun σ2 H2 => ∃ env2 S2, Ext C.K H H2 ∧ Rl C σ2 H2 env2 S2 ∧ whileN (fun env S Q => wc env S Q ((KD C W H D).ex env)) wb (KD C W H D) m env2 S2, fun σ2 H2 h => ⟨m, Nat.lt_succ_self m, h⟩, env', S1, r1, mb _ _ _ _ ?_ k⟩
      exact ⟨fun e2 s2 z σ2 H2 x2 r2 => ⟨e2, s2, x.trans (x1.trans x2), r2, z⟩, fun _ _ z => z.ext (x.trans x1), fun e2 s2 z σ2 H2 x2 r2 => z σ2 H2 (x.trans (x1.trans x2)) r2, fun e2 s2 z σ2 H2 x2 r2 => ⟨e2, s2, x.trans (x1.trans x2), r2, z⟩, fun e2 c s2 z σ2 H2 x2 r2 => z σ2 H2 (x.trans (x1.trans x2)) r2⟩
    | false => exact k _ _ (x.trans x1) r1
theorem forLoop_guard {guard : Store → Prop} {G : D → Env → Option Env} {B : WS} {K : Kt} : ∀ {items : List D} {env : Env} {S : Store}, forLoop guard G B K items env S → guard S
  | [], _, _, h => h.1
  | _ :: _, _, _, h => h.1
/-- the turns of a for -/
theorem for_core {J : It} {items : List D} {guard : Store → Prop} {t : Tg} {wb : WS} {K : Kt} {D : Ends} {σ : St2} {H0 H : Hp} {env : Env} {S : Store} (mb : MonoS wb) (hk : Kt.le K (KD C W H0 D)) (x0 : Ext C.K H0 H) (r : Rl C σ H env S) (ok : ItOk C H J items guard) (q : forLoop guard (asgT t) wb K items env S) :
    ∃ W' : Nat → Nat → St2 → Hp → Prop, (∃ m, W' 0 m σ H) ∧ ∀ i m σ H, W' i m σ H →
      (J.stop i H ∧ D.nx σ H) ∨ (J.go i H ∧ ∃ N : St2 → Hp → Prop, (∀ σ' H', N σ' H' → ∃ m', m' < m ∧ W' (i + 1) m' σ' H') ∧ ∀ x H', J.yld i H x H' → LG C t x σ H' fun σ2 H2 => LS C W wb { D with nx := N, ct := N, bk := D.nx } σ2 H2) := by
  obtain ⟨G, Y, hw, hG, hY⟩ := ok
  refine for_it hw (fun i σ' H' => ∃ env' S', Ext C.K H H' ∧ Rl C σ' H' env' S' ∧ forLoop guard (asgT t) wb K (items.drop i) env' S') ⟨env, S, Ext.refl, r, q⟩ (fun i σ' H' _ ⟨env', S', x', r', k'⟩ => hG H' S' x' r'.2.2 (forLoop_guard k')) (fun i x σ' H2 H3 hi ⟨env', S', x', r', k'⟩ y => ?_) fun σ' H' ⟨env', S', x', r', k'⟩ => ?_
  · obtain ⟨x3, ok3, d, ed, rv⟩ := hY i H2 S' x H3 hi x' r'.2.2 (forLoop_guard k') y
    rw [drop_cons ed] at k'
    obtain ⟨_, env2, e2, k'⟩ := k'
    have xx := x0.trans (x'.trans x3)
    refine ⟨d, env', env2, S', rv, r'.ext x3 ok3, e2, fun σ2 r2 _ => ⟨env2, S', r2, mb _ _ _ _ ?_ k'⟩⟩
    exact ⟨fun e s z σ5 H5 x5 r5 => ⟨e, s, x'.trans (x3.trans x5), r5, z⟩, fun d s z => (hk.rt _ _ z).ext xx, fun e s z σ5 H5 x5 r5 => hk.nx _ _ z σ5 H5 (xx.trans x5) r5, fun e s z σ5 H5 x5 r5 => ⟨e, s, x'.trans (x3.trans x5), r5, z⟩, fun e c s z σ5 H5 x5 r5 => hk.ex _ _ _ z σ5 H5 (xx.trans x5) r5⟩
  · rw [List.drop_length] at k'
    exact hk.nx _ _ k'.2 _ _ (x0.trans x') r'
theorem t_for {tg iter : Expr} {body : List Stmt} {pos : Pos} {t : Tg} {wi : WI} {wb : WS} (hp : PassesOwn (model X.prog X.w) X.A X.env X.xe) (hc : X.calm = true) (hi : PI X tg iter (LI C W wi)) (mi : MonoI wi) (hg : PG X tg (LG C t)) (hb : PSs X body (LS C W wb)) (mb : MonoS wb)
    (hs : ∀ x, foldedSetIterable iter X.env x = pure x) : PS X (.For tg iter body [] pos) (LS C W fun env S K => wi env S (fun items guard S1 => Hold (forLoop guard (asgT t) wb K items env S1)) (K.ex env)) := by
  refine (ps_for hp hc hi hg hb hs).mono fun D σ H ⟨env, S, r, q⟩ => ⟨env, S, r, mi _ _ _ _ _ _ (fun items guard S1 k J H1 x1 r1 ok => ?_) (kx r) q⟩
  exact for_core mb ⟨fun _ _ z => z, fun _ _ z => z, fun _ _ z => z, fun _ _ z => z, fun _ _ _ z => z⟩ x1 r1 ok k.out
end
end SW
/-! SW, part Ja: loops over dicts that are locked meanwhile. -/
namespace SW
open PySem PySem.Spec PyProof.Rows L2
theorem ext0_unlock {K : PySem.W.Frag} {H : Hp} {a : Addr} {od : Obj} {kvs : List (Key × V)} (e : H a = some (.frz od (.dK kvs))) : Ext0 K H (L2.upd H a (.dK kvs)) := fun b xs => ⟨fun q => by
  rcases q with q | q
  · have ne : b ≠ a := fun z => by
      subst z
      rcases q with q | ⟨o, q⟩ <;> rw [e] at q <;> cases q
    refine .inl ?_
    rcases q with q | ⟨o', q⟩
    · exact .inl ((upd_ne ne).trans q)
    · exact .inr ⟨o', (upd_ne ne).trans q⟩
  · exact .inr q, fun q => by
  rcases q with ⟨o', q⟩ | q
  · have ne : b ≠ a := fun z => by
      subst z
      rw [e] at q
      cases q
    exact .inl ⟨o', (upd_ne ne).trans q⟩
  · exact .inr q⟩
theorem ext_unlock {K : PySem.W.Frag} {H H' : Hp} {a : Addr} {od : Obj} {kvs : List (Key × V)} (e : H a = some (.dK kvs)) (x : Ext K (L2.upd H a (.frz od (.dK kvs))) H') : Ext K H (L2.upd H' a (.dK kvs)) := fun b xs => by
  have x1 : Ext K H (L2.upd H a (.frz od (.dK kvs))) := Ext.at e trivial
  have e' : H' a = some (.frz od (.dK kvs)) := (x a []).2.2 _ _ L2.upd_same
  have y := ext0_unlock (K := K) e'
  refine ⟨fun q => (y b xs).1 ((x b xs).1 ((x1 b xs).1 q)), fun q => (y b xs).2 ((x b xs).2.1 ((x1 b xs).2.1 q)), fun o u q => ?_⟩
  have ne : b ≠ a := fun z => by
    subst z
    rw [e] at q
    cases q
  rw [upd_ne ne]
  exact (x b xs).2.2 o u ((x1 b xs).2.2 o u q)
section
variable {X : Cx} {C : Cn} {W : WX} (hK : X.K = C.K)
theorem Rl.unlock {σ : St2} {H' : Hp} {env : Env} {S' : Store} {a : Addr} {od : Obj} {kvs : List (Key × V)} {ks : List (D × D)} (r : Rl C σ H' env S') (e : H' a = some (.frz od (.dK kvs))) (eS : S' a = some (.fz (.dic ks))) : Rl C σ (L2.upd H' a (.dK kvs)) env (S'.upd a (.dic ks)) := by
  have y := ext0_unlock (K := C.K) e
  obtain ⟨o2, k2, e2, r2⟩ := r.2.2 a _ eS
  rw [e] at e2
  cases e2
  refine ⟨r.1, fun i d h => let ⟨v, p, q⟩ := r.2.1 i d h; ⟨v, p, q.ext0 y⟩, fun b c h => ?_⟩
  by_cases z : b = a
  · subst z
    rw [Store.upd_same] at h
    cases h
    exact ⟨kvs, L2.upd_same, r2.ext0 y⟩
  · rw [Store.upd_ne z] at h
    exact (r.2.2 b c h).ext0 y (upd_ne z)
theorem RKs.nth {H : Hp} : ∀ {l : List (Key × V)} {m : List (D × D)} {i : Nat} {k : Key} {v : V}, RKs C H l m → l[i]? = some (k, v) → ∃ d, m[i]? = some (kD k, d) ∧ RV C.K H v d
  | _, _, _, _, _, .nil, h => by cases h
  | _, _, 0, _, _, .cons h r, e => by cases e; exact ⟨_, rfl, h⟩
  | _, _, i + 1, _, _, .cons h r, e => RKs.nth r (i := i) (by simpa using e)
theorem RKs.len {H : Hp} : ∀ {l : List (Key × V)} {m : List (D × D)}, RKs C H l m → l.length = m.length
  | _, _, .nil => rfl
  | _, _, .cons h r => congrArg (· + 1) r.len
theorem rv_key {K : PySem.W.Frag} {H : Hp} : ∀ k : Key, RV K H (kV k) (kD k)
  | .inl i => .int i
  | .inr s => .str s
theorem fz_at {H H' : Hp} {S' : Store} {a : Addr} {o : Obj} {kvs : List (Key × V)} {ks : List (D × D)} (ok : SOk C H' S') (g : S' a = some (.fz (.dic ks))) (x : Ext C.K H H') (e : H a = some (.frz o (.dK kvs))) : H' a = some (.frz o (.dK kvs)) ∧ RKs C H' kvs ks := by
  have e' := (x a []).2.2 _ _ e
  obtain ⟨o2, k2, e2, r2⟩ := ok a _ g
  rw [e'] at e2
  cases e2
  exact ⟨e', r2⟩
theorem itok_keys {H0 : Hp} {a : Addr} {o : Obj} {kvs : List (Key × V)} {ks : List (D × D)} (e0 : H0 a = some (.frz o (.dK kvs))) (l : kvs.length = ks.length) : ItOk C H0 (Itk a o kvs) (itemsD false ks) (fun S => S a = some (.fz (.dic ks))) := by
  have hl : (itemsD false ks).length = kvs.length := by unfold itemsD; rw [if_neg (by decide), List.length_map, l]
  refine ⟨_, _, hl ▸ walk_keys, fun H S x ok g => (fz_at ok g x e0).1, fun i H S y H' hi x ok g ⟨e, k, v, h1, h2⟩ => ?_⟩
  subst e h2
  obtain ⟨d, h3, _⟩ := (fz_at ok g x e0).2.nth h1
  refine ⟨Ext.refl, ok, kD k, ?_, rv_key k⟩
  unfold itemsD
  rw [if_neg (by decide), List.getElem?_map, h3]
  rfl
theorem itok_items {H0 : Hp} {a : Addr} {o : Obj} {kvs : List (Key × V)} {ks : List (D × D)} (e0 : H0 a = some (.frz o (.dK kvs))) (l : kvs.length = ks.length) : ItOk C H0 (Iti a o kvs) (itemsD true ks) (fun S => S a = some (.fz (.dic ks))) := by
  have hl : (itemsD true ks).length = kvs.length := by unfold itemsD; rw [if_pos rfl, List.length_map, l]
  refine ⟨_, _, hl ▸ walk_items, fun H S x ok g => (fz_at ok g x e0).1, fun i H S y H' hi x ok g ⟨T, x1, y1, e1, e2, e3, f1, f2⟩ => ?_⟩
  subst e1 e3
  dsimp only at f1 f2
  cases q : kvs[i]? with
  | none => rw [q] at f1; cases f1
  | some kv =>
    rw [q] at f1 f2
    cases f1
    cases f2
    obtain ⟨d, h3, rd⟩ := (fz_at ok g x e0).2.nth (k := kv.1) (v := kv.2) q
    have x2 : Ext C.K H (L2.upd H T (.tup [kV kv.1, kv.2])) := Ext.new e2
    refine ⟨x2, ok.new0 e2, .tup [kD kv.1, d], ?_, .tup (SqT.of upd_same) (.cons (rv_key kv.1) (.cons (rd.ext x2) .nil))⟩
    unfold itemsD
    rw [if_pos rfl, List.getElem?_map, h3]
    rfl
/-- the loop, the dict locked -/
theorem forD_core {items : Bool} {tg iter : Expr} {body : List Stmt} {pos : Pos} {t : Tg} {we : WE} {wb : WS} (me : MonoE we) (mb : MonoS wb) (hs : PS X (.For tg iter body [] pos) (tFor (if items = true then iItems (LE C W we) else iKeys (LE C W we)) (LG C t) (LS C W wb))) :
    PS X (.For tg iter body [] pos) (LS C W fun env S K => ∃ a kvs, S a = some (.dic kvs) ∧ we env (S.upd a (.fz (.dic kvs))) (fun x S1 => x = .ref a ∧
      Hold (forLoop (fun S' => S' a = some (.fz (.dic kvs))) (asgT t) wb
        { nx := fun env' S' => S' a = some (.fz (.dic kvs)) ∧ K.nx env' (S'.upd a (.dic kvs)), rt := fun d S' => S' a = some (.fz (.dic kvs)) ∧ K.rt d (S'.upd a (.dic kvs)), bk := fun _ _ => False, ct := fun _ _ => False, ex := fun _ => noX }
        (itemsD items kvs) env S1)) noX) := by
  refine (ps_lock hs).mono fun D σ H ⟨env, S, r, a, ks, eS, q⟩ => ?_
  obtain ⟨kvs, eH, rk⟩ := r.2.2 a _ eS
  refine ⟨a, .dK kvs, eH, trivial, fun od => ?_⟩
  have xl : Ext C.K H (L2.upd H a (.frz od (.dK kvs))) := Ext.at eH trivial
  have rl : Rl C σ (L2.upd H a (.frz od (.dK kvs))) env (S.upd a (.fz (.dic ks))) := r.ext xl (r.2.2.put (o := .frz od (.dK kvs)) (c := .fz (.dic ks)) eS ⟨od, kvs, L2.upd_same, rk.ext xl⟩).2
  generalize hD : (⟨fun σ' H' => H' a = some (.frz od (.dK kvs)) ∧ D.nx σ' (L2.upd H' a (.dK kvs)), fun v H' => H' a = some (.frz od (.dK kvs)) ∧ D.rt v (L2.upd H' a (.dK kvs)), fun σ' H' => H' a = some (.frz od (.dK kvs)) ∧ D.bk σ' (L2.upd H' a (.dK kvs)), fun σ' H' => H' a = some (.frz od (.dK kvs)) ∧ D.ct σ' (L2.upd H' a (.dK kvs))⟩ : Ends) = D'
  have le : Kt.le { nx := fun env' S' => (S' a = some (.fz (.dic ks))) ∧ (KD C W H D).nx env' (S'.upd a (.dic ks)), rt := fun d S' => S' a = some (.fz (.dic ks)) ∧ (KD C W H D).rt d (S'.upd a (.dic ks)), bk := fun _ _ => False, ct := fun _ _ => False, ex := fun _ => noX } (KD C W (L2.upd H a (.frz od (.dK kvs))) D') := by
    subst hD
    refine ⟨fun env' S' ⟨g, z⟩ σ' H' x' r' => ?_, fun d S' ⟨g, z⟩ v H' x' ok rv => ?_, fun _ _ z => z.elim, fun _ _ z => z.elim, fun _ _ _ z => z.elim⟩
    · have e' := (x' a []).2.2 _ _ L2.upd_same
      exact ⟨e', z _ _ (ext_unlock eH x') (r'.unlock e' g)⟩
    · have e' := (x' a []).2.2 _ _ L2.upd_same
      have r' : Rl C [] H' [] S' := ⟨rfl, fun i d h => (by simp at h), ok⟩
      exact ⟨e', z v _ (ext_unlock eH x') (r'.unlock e' g).2.2 (rv.ext0 (ext0_unlock e'))⟩
  cases items with
  | true =>
    refine LE.use me rl q (fun _ _ z => z.elim) fun d1 S1 v H1 x1 r1 q1 ⟨e1, k⟩ => ?_
    subst e1
    cases q1
    exact ⟨a, od, kvs, rfl, (x1 a []).2.2 _ _ L2.upd_same, for_core mb le x1 r1 (itok_items ((x1 a []).2.2 _ _ L2.upd_same) rk.len) k.out⟩
  | false =>
    refine LE.use me rl q (fun _ _ z => z.elim) fun d1 S1 v H1 x1 r1 q1 ⟨e1, k⟩ => ?_
    subst e1
    cases q1
    exact ⟨a, od, rfl, .inl ⟨kvs, (x1 a []).2.2 _ _ L2.upd_same, for_core mb le x1 r1 (itok_keys ((x1 a []).2.2 _ _ L2.upd_same) rk.len) k.out⟩⟩
/-- a comprehension over a dict, the dict locked -/
theorem s_compD {items : Bool} {own : List (Str × Nat)} {t : Tg} {we wc wv : WE} (me : MonoE we)
    (mc : MonoE wc) (mv : MonoE wv) (hin : tgIn (own.map (·.2)) t = true) : ∀ σ H Q, LE C W (fun env S Q E => ∃ a kvs, S a = some (.dic kvs) ∧ we env (S.upd a (.fz (.dic kvs))) (fun x S1 => x = .ref a ∧ ∀ p, S1 p = none →
      Hold (compLoop (fun S' => S' a = some (.fz (.dic kvs))) (fun d => asgT t d (wipeE env (own.map (·.2)))) (fun env S Q => wc env S Q noX) (fun env S Q => wv env S Q noX) p (fun S' => Q (.ref p) (S'.upd a (.dic kvs))) (itemsD items kvs) (S1.upd p (.lst [])))) noX) σ H Q →
      tLockE (tLc (if items = true then iItems (LE C W we) else iKeys (LE C W we)) (LG C t) (LT C noW wc) (LE C noW wv) (own.map (·.2))) σ H Q := fun σ H Q ⟨env, S, r, a, ks, eS, q⟩ => by
  obtain ⟨kvs, eH, rk⟩ := r.2.2 a _ eS
  refine ⟨a, .dK kvs, eH, trivial, fun od => ?_⟩
  have xl : Ext C.K H (L2.upd H a (.frz od (.dK kvs))) := Ext.at eH trivial
  have rl : Rl C σ (L2.upd H a (.frz od (.dK kvs))) env (S.upd a (.fz (.dic ks))) := r.ext xl (r.2.2.put (o := .frz od (.dK kvs)) (c := .fz (.dic ks)) eS ⟨od, kvs, L2.upd_same, rk.ext xl⟩).2
  have core : ∀ {J : It} {H1 : Hp} {S1 : Store}, Ext C.K (L2.upd H a (.frz od (.dK kvs))) H1 → Rl C σ H1 env S1 → ItOk C H1 J (itemsD items ks) (fun S' => S' a = some (.fz (.dic ks))) →
      (∀ p, S1 p = none → Hold (compLoop (fun S' => S' a = some (.fz (.dic ks))) (fun d => asgT t d (wipeE env (own.map (·.2)))) (fun env S Q => wc env S Q noX) (fun env S Q => wv env S Q noX) p (fun S' => QV C H Q (.ref p) (S'.upd a (.dic ks))) (itemsD items ks) (S1.upd p (.lst [])))) →
      ∀ D, H1 D = none → ∃ W : Nat → Nat → Hp → Prop, (∃ m, W 0 m (L2.upd H1 D (.lst []))) ∧ ∀ i m H2, W i m H2 →
        (J.stop i H2 ∧ (H2 a = some (.frz od (.dK kvs)) ∧ Q (.ref D) (L2.upd H2 a (.dK kvs)))) ∨ (J.go i H2 ∧ ∃ Nx : Hp → Prop, (∀ H', Nx H' → ∃ m', m' < m ∧ W (i + 1) m' H') ∧ ∀ x H', J.yld i H2 x H' → (LG C t) x (L2.wipe σ (own.map (·.2))) H' fun σ2 H2 => L2.wipe σ2 (own.map (·.2)) = L2.wipe σ (own.map (·.2)) ∧ (LT C noW wc) σ2 H2 fun b H3 =>
          if b = true then (LE C noW wv) σ2 H3 fun y H4 => ∃ acc, H4 D = some (.lst acc) ∧ acc.length < sizeLine ∧ Nx (L2.upd H4 D (.lst (acc ++ [y]))) else Nx H3) := by
    intro J H1 S1 x1 r1 ⟨G, Y, hw, hG, hY⟩ k p hp
    have k0 := (k p (r1.2.2.none_of hp)).out
    have xp : Ext C.K H1 (L2.upd H1 p (.lst [])) := Ext.new hp
    refine lc_it hw (fun i H' => ∃ S', Ext C.K H1 H' ∧ Rl C (L2.wipe σ (own.map (·.2))) H' (wipeE env (own.map (·.2))) S' ∧ compLoop (fun S' => S' a = some (.fz (.dic ks))) (fun d => asgT t d (wipeE env (own.map (·.2)))) (fun env S Q => wc env S Q noX) (fun env S Q => wv env S Q noX) p (fun S' => QV C H Q (.ref p) (S'.upd a (.dic ks))) ((itemsD items ks).drop i) S')
      ⟨_, xp, (r1.wipe _).ext xp (r1.2.2.new (c := .lst []) hp ⟨[], upd_same, .nil⟩), k0⟩ (fun i H' _ ⟨S', x', r', k'⟩ => hG H' S' x' r'.2.2 (compLoop_guard k')) (fun i x H2 H3 hi' ⟨S', x', r', k'⟩ y => ?_) fun H' ⟨S', x', r', k'⟩ => ?_
    · obtain ⟨x3, ok3, d, ed, rv⟩ := hY i H2 S' x H3 hi' x' r'.2.2 (compLoop_guard k') y
      rw [drop_cons ed] at k'
      obtain ⟨_, env2, e2, k'⟩ := k'
      refine ⟨d, _, env2, S', rv, r'.ext x3 ok3, e2, fun σ2 r2 good => ⟨(good _ hin).trans (wipe_wipe _), env2, S', r2, mc _ _ _ _ _ _ (fun b S3 ⟨c, ec, z⟩ => ⟨c, ec, fun H4 x4 ok4 => ?_⟩) (fun _ _ z => z.elim) k'⟩⟩
      have x34 : Ext C.K H1 H4 := x'.trans (x3.trans x4)
      cases c with
      | false => exact ⟨S3, x34, r'.ext (x3.trans x4) ok4, z⟩
      | true =>
        refine ⟨env2, S3, r2.ext x4 ok4, mv _ _ _ _ _ _ (fun yd S5 z5 v5 H5 x5 ok5 rv5 => ?_) (fun _ _ z => z.elim) z⟩
        obtain ⟨acc, ea, hl, z5⟩ := z5
        obtain ⟨vs, eh, rs⟩ := ok5.lst ea
        have w := ok5.put (p := p) (o := .lst (vs ++ [v5])) (c := .lst (acc ++ [yd])) ea
        obtain ⟨u, hu, hn⟩ := (ok5 p _ ea).ups
        have xx : Ext C.K H5 (L2.upd H5 p (.lst (vs ++ [v5]))) := Ext.at hu hn
        refine ⟨vs, eh, by rw [rs.length]; exact hl, _, x34.trans (x5.trans xx), r'.ext (x3.trans (x4.trans (x5.trans xx))) (w ⟨_, upd_same, (rs.ext xx).append (.cons (rv5.ext xx) .nil)⟩).2, z5⟩
    · rw [List.drop_length] at k'
      obtain ⟨g, k'⟩ := k'
      have xa := x1.trans x'
      have e' := (xa a []).2.2 _ _ L2.upd_same
      refine ⟨e', k' (.ref p) _ (ext_unlock eH xa) ?_ (.ref p)⟩
      have r2 : Rl C [] H' [] S' := ⟨rfl, fun i d h => (by simp at h), r'.2.2⟩
      exact (r2.unlock e' g).2.2
  cases items with
  | true =>
    refine LE.use me rl q (fun _ _ z => z.elim) fun d1 S1 v H1 x1 r1 q1 ⟨e1, k⟩ => ?_
    subst e1
    cases q1
    exact ⟨a, od, kvs, rfl, (x1 a []).2.2 _ _ L2.upd_same, core x1 r1 (itok_items ((x1 a []).2.2 _ _ L2.upd_same) rk.len) k⟩
  | false =>
    refine LE.use me rl q (fun _ _ z => z.elim) fun d1 S1 v H1 x1 r1 q1 ⟨e1, k⟩ => ?_
    subst e1
    cases q1
    exact ⟨a, od, rfl, .inl ⟨kvs, (x1 a []).2.2 _ _ L2.upd_same, core x1 r1 (itok_keys ((x1 a []).2.2 _ _ L2.upd_same) rk.len) k⟩⟩
end
end SW
/-! SW, part Jb: displays of dicts, list(range(..)). -/
namespace SW
open PySem PySem.Spec PyProof.Rows L2
def flatP2 : List (V × V) → List V
  | [] => []
  | p :: ps => p.1 :: p.2 :: flatP2 ps
theorem pairs_rk {C : Cn} {H : Hp} : ∀ {ps : List (V × V)} {ds : List D} {kvs : List (D × D)}, RVs C.K H (flatP2 ps) ds → pairsOf ds = some kvs → ∃ l : List (Key × V), ps = l.map (fun kv => (kV kv.1, kv.2)) ∧ RKs C H l kvs
  | [], ds, kvs, r, h => by
    cases r
    cases h
    exact ⟨[], rfl, .nil⟩
  | p :: ps, ds, kvs, r, h => by
    match ds, r with
    | d1 :: d2 :: ds, .cons r1 (.cons r2 r) =>
        simp only [pairsOf] at h
        split at h
        · rename_i hk
          cases e : pairsOf ds with
          | none => rw [e] at h; cases h
          | some m =>
            rw [e] at h
            cases h
            obtain ⟨l, e1, e2⟩ := pairs_rk r e
            obtain ⟨k, rfl⟩ := key_of hk
            refine ⟨(k, p.2) :: l, ?_, .cons r2 e2⟩
            rw [e1, List.map_cons]
            congr 1
            cases k with
            | inl i => cases p; cases r1; rfl
            | inr s => cases p; cases r1; rfl
        · cases h
section
variable {X : Cx} {C : Cn} {W : WX} (hK : X.K = C.K)
/-- the pairs of a display -/
def PrOk (C : Cn) (W : WX) (trs : List (TE × TE)) (wes : WA) : Prop := ∀ (env : Env) (S : Store) (σ : St2) (H : Hp) (Q : List D → Store → Prop) (G : List (V × V) → Hp → Prop), Rl C σ H env S → wes env S Q (XW C W σ H) →
  (∀ ds S' ps H', Ext C.K H H' → Rl C σ H' env S' → RVs C.K H' (flatP2 ps) ds → Q ds S' → G ps H') → tPairs trs σ H G
theorem pr_nil : PrOk C W [] (fun _ S Q _ => Q [] S) := fun env S σ H Q G r q k => k [] S [] H Ext.refl r .nil q
theorem pr_cons {wk wv : WE} {wes : WA} {trs : List (TE × TE)} (mk : MonoE wk) (mv : MonoE wv) (ms : MonoA wes) (h : PrOk C W trs wes) :
    PrOk C W ((LE C W wk, LE C W wv) :: trs) (fun env S Q E => wk env S (fun d S1 => wv env S1 (fun d2 S2 => wes env S2 (fun ds S3 => Q (d :: d2 :: ds) S3) E) E) E) := fun env S σ H Q G r q k =>
  LE.use mk r q (fun _ _ z => z) fun d S1 v H1 x1 r1 q1 k1 => LE.use mv r1 k1 (XW.ext x1) fun d2 S2 v2 H2 x2 r2 q2 k2 =>
    h env S2 σ H2 _ _ r2 (ms _ _ _ _ _ _ (fun _ _ z => z) (XW.ext (x1.trans x2)) k2) fun ds S3 ps H3 x3 r3 q3 z => k (d :: d2 :: ds) S3 ((v, v2) :: ps) H3 (x1.trans (x2.trans x3)) r3 (.cons (q1.ext (x2.trans x3)) (.cons (q2.ext x3) q3)) z
theorem s_disp {keys : List (Option Expr)} {values : List Expr} {pos : Pos} {trs : List (TE × TE)} {wes : WA} (ms : MonoA wes) (h : PPs X pos keys values trs) (hp : PrOk C W trs wes) (hall : keys.all (·.isSome) = true) (hl : keys.length = values.length) (h0 : keys ≠ []) (h15 : keys.length ≤ 15) :
    PE X (.Dict keys values pos) (LE C W fun env S Q E => ∀ p, S p = none → wes env (S.upd p (.dic [])) (fun ds S2 => S2 p = some (.dic []) ∧ ∃ kvs, pairsOf ds = some kvs ∧ kvs.length ≤ 15 ∧ Q (.ref p) (S2.upd p (.dic (mergeD [] kvs)))) E) :=
  (pe_disp h hall hl h0 h15).mono fun σ H Q ⟨env, S, r, q⟩ p hpn => by
    have x1 : Ext C.K H (L2.upd H p (.dK [])) := Ext.new hpn
    have r1 : Rl C σ (L2.upd H p (.dK [])) env (S.upd p (.dic [])) := r.ext x1 (r.2.2.new (c := .dic []) hpn ⟨[], upd_same, .nil⟩)
    refine hp env _ σ _ _ _ r1 (ms _ _ _ _ _ _ (fun _ _ z => z) (XW.ext x1) (q p (r.2.2.none_of hpn))) fun ds S2 ps H2 x2 r2 rv ⟨e, kvs, ek, hk, z⟩ => ?_
    obtain ⟨l0, e0, rk0⟩ := r2.2.2.dic e
    cases rk0
    obtain ⟨l, el, rk⟩ := pairs_rk (C := C) rv ek
    have w := r2.2.2.put (o := .dK (mergeK [] l)) (c := .dic (mergeD [] kvs)) e
    have xx : Ext C.K H2 (L2.upd H2 p (.dK (mergeK [] l))) := Ext.at e0 trivial
    exact ⟨e0, l, el, by rw [rk.length]; exact hk, z _ _ (x1.trans (x2.trans xx)) (w ⟨_, upd_same, (rk.ext xx).merge .nil⟩).2 (.ref p)⟩
theorem rv_rg {K : PySem.W.Frag} {H : Hp} (i j : Int) : RVs K H (rgV i j) (rngL i j) := by
  have e1 : rgV i j = ((List.range (j - i).toNat).map fun k : Nat => i + (k : Int)).map V.int := by unfold rgV; rw [List.map_map]; rfl
  have e2 : rngL i j = ((List.range (j - i).toNat).map fun k : Nat => i + (k : Int)).map D.int := by unfold rngL; rw [List.map_map]; rfl
  rw [e1, e2]
  exact RVs.ofInts
theorem s_lr2 {a b : Expr} {p p2 pos pos2 : Pos} {wa wb : WE} (hc : X.calm = true) (hg : Gl X "list") (hm : X.mg "list" = none) (hg2 : Gl X "range") (hm2 : X.mg "range" = none) (ha : PE X a (LE C W wa)) (hb : PE X b (LE C W wb)) (ma : MonoE wa) (mb : MonoE wb) (h1 : notStar a = true) (h2 : notStar b = true) :
    PE X (.Call (.Name "list" p) [.Call (.Name "range" p2) [a, b] [] pos2] [] pos) (LE C W fun env S Q E => wa env S (fun x S1 => wb env S1 (fun y S2 => ∃ i j, x = .int i ∧ y = .int j ∧ small i ∧ small j ∧ (j - i).toNat ≤ 16777216 ∧ ∀ p, S2 p = none → Q (.ref p) (S2.upd p (.lst (rngL i j)))) E) E) := by
  have e2 : starEach [a, b] X.env = (false, eval a X.env) :: starEach [b] X.env := star1 h1
  have e3 : starEach [b] X.env = (false, eval b X.env) :: starEach [] X.env := star1 h2
  refine (pe_listRg hc hg hm (prg_2 hg2 hm2 ha hb e2 e3 (starAll (es := [b]) (by rw [List.all_cons, h2]; rfl)))).mono fun σ H Q ⟨env, S, r, q⟩ => LE.use ma r q (fun _ _ z => z) fun d S1 v H1 x1 r1 q1 k1 => LE.use mb r1 k1 (XW.ext x1) fun d2 S2 v2 H2 x2 r2 q2 ⟨i, j, e1, e2, s1, s2, l, k⟩ => ?_
  subst e1 e2
  cases q1
  cases q2
  exact ⟨i, j, rfl, rfl, ⟨s1.1, s1.2, s2.1, s2.2, l⟩, fun q hq => QV.new (fun p hp => QV.ext (x1.trans x2) _ _ (k p hp)) r2.2.2 (rv_rg i j) hq⟩
theorem s_lr1 {a : Expr} {p p2 pos pos2 : Pos} {wa : WE} (hc : X.calm = true) (hg : Gl X "list") (hm : X.mg "list" = none) (hg2 : Gl X "range") (hm2 : X.mg "range" = none) (ha : PE X a (LE C W wa)) (ma : MonoE wa) (h1 : notStar a = true) :
    PE X (.Call (.Name "list" p) [.Call (.Name "range" p2) [a] [] pos2] [] pos) (LE C W fun env S Q E => wa env S (fun y S2 => ∃ i j, D.int 0 = .int i ∧ y = .int j ∧ small i ∧ small j ∧ (j - i).toNat ≤ 16777216 ∧ ∀ p, S2 p = none → Q (.ref p) (S2.upd p (.lst (rngL i j)))) E) := by
  refine (pe_listRg hc hg hm (prg_1 hg2 hm2 ha (star1 h1))).mono fun σ H Q ⟨env, S, r, q⟩ => LE.use ma r q (fun _ _ z => z) fun d2 S2 v2 H2 x2 r2 q2 ⟨i, j, e1, e2, s1, s2, l, k⟩ => ?_
  cases e1
  subst e2
  cases q2
  exact ⟨j, rfl, ⟨s1.1, s1.2, s2.1, s2.2, l⟩, fun q hq => QV.new (fun p hp => QV.ext x2 _ _ (k p hp)) r2.2.2 (rv_rg 0 j) hq⟩
end
end SW
/-! SW, part K: from the text to the small language. -/
namespace SW
open PySem PySem.Spec PyProof.Rows L2
inductive Gk where | cst (d : D) | fn (f : Nat) | cls (c : Nat) | exc (c : Nat)
structure EC where
  N : List Str
  sc : List (Str × NameKind)
  own : List Str
  gl : List (Str × Gk)
  bn : List Str
  flds : List (Str × Nat)
  mths : List (Str × Nat)
  dn : List Str := []
def chk (b : Bool) : Option Unit := if b = true then some () else none
theorem chk_some {b : Bool} {u : Unit} : chk b = some u ↔ b = true := by
  unfold chk
  cases b <;> simp
def ixOf (x : Str) : List Str → Option Nat
  | [] => none
  | y :: r => if y = x then some 0 else (ixOf x r).map (· + 1)
theorem ixOf_ok {x : Str} : ∀ {l : List Str} {i : Nat}, ixOf x l = some i → l[i]? = some x
  | [], i, h => by cases h
  | y :: r, i, h => by
    unfold ixOf at h
    by_cases e : y = x
    · rw [if_pos e] at h
      cases h
      rw [e]
      rfl
    · rw [if_neg e] at h
      cases q : ixOf x r with
      | none => rw [q] at h; cases h
      | some j =>
        rw [q] at h
        cases h
        have z := ixOf_ok q
        simpa using z
def badN (x : Str) : Bool := x == ("__debug__" : Str) || (x == ("__classdict__" : Str) || x == ("__name__" : Str))
def EC.vis (G : EC) (x : Str) : Bool := match G.sc.lookup x with
  | some .local => true
  | some .cell => true
  | some .free => true
  | _ => false
def EC.isG (G : EC) (x : Str) : Bool := match G.sc.lookup x with
  | some .globalImplicit => true
  | _ => false
/-- a name that may be stored -/
def EC.sto (G : EC) (x : Str) : Bool := match G.sc.lookup x with
  | some .local => true
  | some .cell => G.own.contains x
  | _ => false
def EC.isL (G : EC) (x : Str) : Bool := match G.sc.lookup x with
  | some .local => true
  | _ => false
def bopOf : Operator → Option Bop
  | .Add => some .add
  | .Sub => some .sub
  | .Mult => some .mul
  | .FloorDiv => some .fdiv
  | .Mod => some .mod
  | .Pow => some .pow
  | _ => none
def copOf : CmpOp → Cop
  | .Eq => .eq
  | .NotEq => .ne
  | .Lt => .lt
  | .LtE => .le
  | .Gt => .gt
  | .GtE => .ge
  | .Is => .is
  | .IsNot => .isnot
  | .In => .in_
  | .NotIn => .notin
def bltNs : List (Str × Blt) := [("len", .len), ("int", .int), ("max", .max), ("min", .min), ("list", .list), ("tuple", .tuple), ("sorted", .sorted), ("str", .str), ("abs", .abs), ("sum", .sum), ("all", .all), ("any", .any), ("dict", .dict)]
def bmtNs : List (Str × Bmt) := [("append", .append), ("pop", .pop), ("get", .get), ("join", .join), ("split", .split), ("extend", .extend), ("clear", .clear), ("remove", .remove), ("index", .index), ("insert", .insert), ("reverse", .reverse), ("count", .count), ("startswith", .startswith), ("setdefault", .setdefault)]
def tyNs : List (Str × Ty) := [("int", .int), ("bool", .bool), ("str", .str), ("list", .list), ("tuple", .tuple), ("dict", .dict)]
/-- a test that is asked the plain way, or by its operator -/
def tst : Expr → Bool
  | .IfExp _ _ _ _ => false
  | _ => true
def noSlice : Expr → Bool
  | .Slice _ _ _ _ => false
  | _ => true
def noSet : Expr → Bool
  | .Set _ _ _ => false
  | _ => true
def elEs (f : Expr → Option Ex) : List Expr → Option Exs
  | [] => some .nil
  | e :: es => do
    let a ← f e
    let b ← elEs f es
    some (.cons a b)
/-- a part of an f-string: a text, or an int -/
def elFp (f : Expr → Option Ex) : Expr → Option Ex
  | .FormattedValue e c none _ => if c = -1 then (f e).bind fun x => some (.blt .str (.cons x .nil)) else none
  | .Constant (.str s) _ _ => some (.cst (.str s))
  | _ => none
def elFs (f : Expr → Option Ex) : List Expr → Option (List Ex)
  | [] => some []
  | e :: es => do
    let a ← elFp f e
    let b ← elFs f es
    some (a :: b)
def elB (f : Expr → Option Ex) (op : BoolOp) : List Expr → Option Ex
  | [] => none
  | [a] => do
    chk (tst a)
    f a
  | a :: b :: rest => do
    chk (tst a)
    let x ← f a
    let y ← elB f op (b :: rest)
    match op with
    | .And => some (.an x y)
    | .Or => some (.or x y)
def elO (f : Expr → Option Ex) : Option Expr → Option Ox
  | none => some .no
  | some e => do
    let a ← f e
    some (.some a)
def elTy (G : EC) : Expr → Option Ty
  | .Name x _ => do
    chk (G.isG x && G.bn.contains x && !badN x)
    tyNs.lookup x
  | _ => none
def elTys (G : EC) : List Expr → Option (List Ty)
  | [] => some []
  | e :: es => do
    let a ← elTy G e
    let b ← elTys G es
    some (a :: b)
mutual
def elT : Nat → EC → Expr → Option Tg
  | 0, _, _ => none
  | n + 1, G, .Name x _ => do
    chk (G.sto x)
    let i ← ixOf x G.N
    some (.nm i)
  | n + 1, G, .Tuple es _ _ => do
    let ts ← elTs n G es
    some (.tup ts)
  | _ + 1, _, _ => none
def elTs : Nat → EC → List Expr → Option Tgs
  | 0, _, _ => none
  | _ + 1, _, [] => some .nil
  | n + 1, G, e :: es => do
    let t ← elT n G e
    let ts ← elTs n G es
    some (.cons t ts)
end
/-! the names of a target -/
mutual
def tgNs : Nat → Expr → List Str
  | _, .Name x _ => [x]
  | n + 1, .Tuple es _ _ => tgsNs n es
  | _, _ => []
def tgsNs : Nat → List Expr → List Str
  | n + 1, e :: es => tgNs n e ++ tgsNs n es
  | _, _ => []
end
def mapO {α β : Type} (f : α → Option β) : List α → Option (List β)
  | [] => some []
  | a :: r => do
    let b ← f a
    let bs ← mapO f r
    some (b :: bs)
def relabelN (sc : List (Str × NameKind)) (names : List (Str × NameKind)) : List (Str × NameKind) :=
  names.map fun (n, k) => if (k == .free && sc.lookup n == some .cell) = true then (n, .cell) else (n, k)
/-- the block of a comprehension -/
def EC.blk (G : EC) (scope : Scope) : EC := { G with sc := relabelN G.sc scope.names, own := (scope.names.filter fun p => p.2 == .cell).map (·.1) }
def scOf (names : List (Str × NameKind)) : Scope := { kind := .function, names := names, isGenerator := false, isCoroutine := false }
def isTupE : Expr → Bool
  | .Tuple _ _ _ => true
  | _ => false
def elI (f : Expr → Option Ex) (G : EC) (tg : Expr) : Expr → Option Itx
  | .Call (.Name x p) args [] pos => if x = ("range" : Str) then do
      chk (G.isG x && G.bn.contains x)
      match args with
      | [a] => do
        let a' ← f a
        some (.rng1 a')
      | [a, b] => do
        let a' ← f a
        let b' ← f b
        some (.rng2 a' b')
      | _ => none
    else if x = ("enumerate" : Str) then do
      chk (G.isG x && (G.bn.contains x && isTupE tg))
      match args with
      | [a] => do
        let a' ← f a
        some (.enu a')
      | _ => none
    else if x = ("zip" : Str) then do
      chk (G.isG x && (G.bn.contains x && isTupE tg))
      match args with
      | [a, b] => do
        let a' ← f a
        let b' ← f b
        some (.zip a' b')
      | _ => none
    else do
      let a ← f (.Call (.Name x p) args [] pos)
      some (.seq a)
  | e => do
    chk (noSet e)
    let a ← f e
    some (.seq a)
def elC (f : Expr → Option Ex) : List Expr → Option Ex
  | [] => some (.cst (.bl true))
  | [c] => do
    chk (tst c)
    f c
  | _ => none
/-- calls within calls that are read as one -/
inductive Spc where | lr1 (a : Expr) | lr2 (a b : Expr) | ss (a : Expr) | ls (a : Expr) | rv (a : Expr)
def isB (G : EC) (x y : Str) : Bool := decide (x = y) && (G.isG x && G.bn.contains x)
def special (G : EC) (x : Str) : List Expr → Option Spc
  | [.Call (.Name y _) [a] [] _] => if (isB G x "list" && (isB G y "range" && notStar a)) = true then some (.lr1 a) else if (isB G x "sorted" && (isB G y "set" && notStar a)) = true then some (.ss a) else
    if (isB G x "len" && (isB G y "set" && notStar a)) = true then some (.ls a) else if (isB G x "list" && (isB G y "reversed" && notStar a)) = true then some (.rv a) else none
  | [.Call (.Name y _) [a, b] [] _] => if (isB G x "list" && (isB G y "range" && (notStar a && notStar b))) = true then some (.lr2 a b) else none
  | _ => none
/-- a call of a name -/
def elCall (r : EC → Expr → Option Ex) (G : EC) (x : Str) (args : List Expr) : Option Ex := do
  chk (G.isG x && !badN x)
  match G.gl.lookup x with
  | some (.fn f) => do
    let xs ← elEs (r G) args
    some (.call f xs)
  | some (.cls c) => do
    let xs ← elEs (r G) args
    some (.mk c xs)
  | some _ => none
  | none => do
    chk (G.bn.contains x)
    if x = ("isinstance" : Str) then
      match args with
      | [a, .Tuple ts _ _] => do
        chk (decide (ts.length ≤ sizeLine))
        let y ← r G a
        let tys ← elTys G ts
        some (.isi y tys)
      | [a, t] => do
        let y ← r G a
        let ty ← elTy G t
        some (.isi y [ty])
      | _ => none
    else do
      let b ← bltNs.lookup x
      chk (!args.isEmpty)
      let xs ← elEs (r G) args
      some (.blt b xs)
/-- the pairs of a display -/
def elPairs (f : Expr → Option Ex) : List (Option Expr) → List Expr → Option Exs
  | [], [] => some .nil
  | some k :: ks, v :: vs => do
    let a ← f k
    let b ← f v
    let c ← elPairs f ks vs
    some (.cons a (.cons b c))
  | _, _ => none
/-- what is walked as a dict: its pairs, or its keys -/
def dwalk (G : EC) (tg : Expr) : Expr → Option (Bool × Expr)
  | .Call (.Attribute a m apos) [] [] cpos => if m = ("items" : Str) ∧ (okBase a && ((apos.endLine == cpos.line) && isTupE tg)) = true then some (true, a) else none
  | .Name x p => if G.dn.contains x = true then some (false, .Name x p) else none
  | .Subscript a (.Constant (.str x) k q) p => if G.dn.contains x = true then some (false, .Subscript a (.Constant (.str x) k q) p) else none
  | _ => none
theorem dwalk_ok {X : Cx} {G : EC} {tg iter a : Expr} {items : Bool} {te : TE} (h : dwalk G tg iter = some (items, a)) (ha : PE X a te) : PI X tg iter (if items = true then iItems te else iKeys te) ∧ ∀ z, foldedSetIterable iter X.env z = pure z := by
  unfold dwalk at h
  split at h
  · split at h
    · rename_i hc
      cases h
      obtain ⟨rfl, hc⟩ := hc
      rw [Bool.and_eq_true, Bool.and_eq_true] at hc
      obtain ⟨h1, h2, h3⟩ := hc
      cases tg with
      | Tuple elts kk tpos => exact ⟨pi_items ha (base_of h1) h2, fun _ => rfl⟩
      | _ => cases h3
    · cases h
  · split at h
    · cases h
      exact ⟨pi_keys ha, fun _ => rfl⟩
    · cases h
  · split at h
    · cases h
      exact ⟨pi_keys ha, fun _ => rfl⟩
    · cases h
  · cases h
def elX (r : EC → Expr → Option Ex) (n : Nat) (G : EC) : Expr → Option Ex
  | .Name x _ => do
    chk (!badN x)
    if G.vis x = true then do
      let i ← ixOf x G.N
      some (.var i)
    else do
      chk (G.isG x)
      match G.gl.lookup x with
      | some (.cst d) => some (.cst d)
      | _ => none
  | .Constant c _ _ => match c with
    | .none => some (.cst .non)
    | .bool b => some (.cst (.bl b))
    | .int i => some (.cst (.int i))
    | .str s => some (.cst (.str s))
    | _ => none
  | .BinOp a op b _ => do
    let o ← bopOf op
    let x ← r G a
    let y ← r G b
    some (.bin o x y)
  | .UnaryOp .Not a _ => do
    chk (tst a)
    let x ← r G a
    some (.no x)
  | .UnaryOp .USub a _ => do
    let x ← r G a
    some (.neg x)
  | .BoolOp op es _ => elB (r G) op es
  | .Compare a [op] [b] _ => do
    chk (!behindInMarks op b)
    let x ← r G a
    let y ← r G b
    some (.cmp (copOf op) x y)
  | .Compare a [op, op'] [b, c] _ => do
    chk (!lastMarks [op, op'] [b, c])
    let x ← r G a
    let y ← r G b
    let z ← r G c
    some (.chn (copOf op) (copOf op') x y z)
  | .IfExp t a b _ => do
    chk (tst t)
    let z ← r G t
    let x ← r G a
    let y ← r G b
    some (.ife z x y)
  | .Tuple es _ _ => do
    let xs ← elEs (r G) es
    some (.tup xs)
  | .List es _ => do
    let xs ← elEs (r G) es
    some (.lst xs)
  | .Dict [] [] _ => some (.dic .nil .nil)
  | .Dict (k :: ks) vs _ => do
    chk (decide ((k :: ks).length ≤ 15))
    let xs ← elPairs (r G) (k :: ks) vs
    some (.dic xs .nil)
  | .Subscript a (.Slice none none (some (.UnaryOp .USub (.Constant (.int 1) _ _) _)) _) _ => do
    let x ← r G a
    some (.rvs x)
  | .Subscript a (.Slice lo hi (some st) _) _ => do
    let x ← r G a
    let l ← elO (r G) lo
    let h ← elO (r G) hi
    let t ← elO (r G) (some st)
    some (.slc3 x l h t)
  | .Subscript a (.Slice lo hi none _) _ => do
    let x ← r G a
    let l ← elO (r G) lo
    let h ← elO (r G) hi
    some (.slc x l h)
  | .Subscript a b _ => do
    chk (noSlice b)
    let x ← r G a
    let y ← r G b
    some (.ix x y)
  | .Attribute a f _ => do
    chk (okBase a)
    let x ← r G a
    let i ← G.flds.lookup f
    some (.fld x i)
  | .Call (.Name x _) args [] _ => match special G x args with
    | some (.lr1 a) => do
      let y ← r G a
      some (.lrg (.cst (.int 0)) y)
    | some (.lr2 a b) => do
      let y ← r G a
      let z ← r G b
      some (.lrg y z)
    | some (.ss a) => do
      let y ← r G a
      some (.sset y)
    | some (.ls a) => do
      let y ← r G a
      some (.lset y)
    | some (.rv a) => do
      let y ← r G a
      some (.rvs y)
    | none => elCall r G x args
  | .Call (.Attribute o m apos) args [] pos => do
    chk (okBase o && (decide (args.length < 30) && (apos.endLine == pos.line)))
    let y ← r G o
    let xs ← elEs (r G) args
    match G.mths.lookup m with
    | some i => some (.meth y i xs)
    | none => do
      let b ← bmtNs.lookup m
      some (.bmt y b xs)
  | .ListComp elt [⟨tg, iter, ifs, 0⟩] scope _ => match dwalk G tg iter with
    | some (items, a) => do
      let d ← r G a
      let own ← mapO (fun x => (ixOf x G.N).map fun i => (x, i)) (tgNs n tg)
      chk (blkC G.N (scOf G.sc) scope own)
      let t ← elT n (G.blk scope) tg
      chk (tgIn (own.map (·.2)) t)
      let c ← elC (r (G.blk scope)) ifs
      let e ← r (G.blk scope) elt
      some (.compD e t items d c (own.map (·.2)))
    | none => do
      let it ← elI (r G) G tg iter
      let own ← mapO (fun x => (ixOf x G.N).map fun i => (x, i)) (tgNs n tg)
      chk (blkC G.N (scOf G.sc) scope own)
      let t ← elT n (G.blk scope) tg
      chk (tgIn (own.map (·.2)) t)
      let c ← elC (r (G.blk scope)) ifs
      let e ← r (G.blk scope) elt
      some (.comp e t it c (own.map (·.2)))
  | .JoinedStr (p :: q :: ps) _ => do
    let xs ← elFs (r G) (p :: q :: ps)
    some (xs.foldl (fun a x => .bin .add a x) (.cst (.str Str.empty)))
  | _ => none
def elE : Nat → EC → Expr → Option Ex
  | 0, _, _ => none
  | n + 1, G, e => elX (elE n) n G e
end SW
/-! SW, part L: the way from the text is right: expressions. -/
namespace SW
open PySem PySem.Spec PyProof.Rows L2
/-- a call of the thing at a, in every context alike -/
structure Same (X Y : Cx) : Prop where
  prog : Y.prog = X.prog
  w : Y.w = X.w
  K : Y.K = X.K
  mg : Y.mg = X.mg
  base : Y.base = X.base
  A : Y.A = X.A
theorem Same.trans {X Y Z : Cx} (a : Same X Y) (b : Same Y Z) : Same X Z := ⟨b.prog.trans a.prog, b.w.trans a.w, b.K.trans a.K, b.mg.trans a.mg, b.base.trans a.base, b.A.trans a.A⟩
def CallAll (X : Cx) (C : Cn) (a : Addr) (w : List D → Store → PQ → PX → Prop) : Prop := ∀ Y W, Same X Y → Takes Y W → CallOk Y C W a w
def mkW (P : Prg) (RM : Rec) (c : Nat) : List D → Store → PQ → PX → Prop := fun ds S Q E => ∃ f, P.init c = some f ∧ ∀ p, S p = none → RM f (.ref p :: ds) (S.upd p (.ins c [])) (fun v S2 => v = .non ∧ Q (.ref p) S2) E
def GlOk (C : Cn) (P : Prg) (R RM : Rec) (X : Cx) (x : Str) : Gk → Prop
  | .cst d => ∃ v u, X.mg x = some u ∧ RelV v u ∧ ∀ H, RV C.K H v d
  | .fn f => ∃ a, X.mg x = some (.ref a) ∧ PySem.W.keepIn X.K (.ref a) = true ∧ CallAll X C a fun ds S Q E => R f ds S Q E
  | .cls c => ∃ a, X.mg x = some (.ref a) ∧ PySem.W.keepIn X.K (.ref a) = true ∧ CallAll X C a (mkW P RM c)
  | .exc c => X.mg x = some (.ref (C.ca c)) ∧ PySem.W.excIn X.K (C.ca c) He.veBase "ValueError.__new__" = true ∧ PySem.W.keepIn X.K (.ref (C.ca c)) = true ∧
      PySem.W.subIn X.K (.ref (C.ca c)) (.type "BaseException") = some true ∧ PySem.W.typeIn X.K (.ref (C.ca c)) = some (.type "type")
/-- a class that an exception is asked for: one of the text, or ValueError -/
def cvU (C : Cn) : Option Nat → Value
  | none => .type "ValueError"
  | some c => .ref (C.ca c)
def cvV (C : Cn) : Option Nat → V
  | none => .ty "ValueError"
  | some c => .ref (C.ca c)
structure XOk (G : EC) (C : Cn) (P : Prg) (R RM : Rec) (W : WX) (X : Cx) : Prop where
  K : X.K = C.K
  N : X.N = G.N
  nd : X.N.Nodup
  scn : X.env.scope.names = G.sc
  sck : X.env.scope.kind = .function
  fnc : ∀ x, G.own.contains x = true → X.fn x = true
  calm : X.calm = true
  hu : X.A.units + 64 < cLine
  tk : Takes X W
  po : PassesOwn (model X.prog X.w) X.A X.env X.xe
  F : Fcts C
  gl : ∀ x g, G.gl.lookup x = some g → GlOk C P R RM X x g
  bn : ∀ x, G.bn.contains x = true → X.mg x = none
  fld : ∀ s f, G.flds.lookup s = some f → C.nm f = s ∧ C.isF f
  mnm : ∀ s f, G.mths.lookup s = some f → C.nm f = s
  mth : ∀ m Y W', Same X Y → Takes Y W' → MethOk Y C W' P R m
  sub : ∀ c' c b, P.sub c' c = some b → PySem.W.exmOne C.K (.ref (C.ca c')) (.ref (C.ca c)) = some b
  isx : ∀ c' oc b, P.isx c' oc = some b → ExcC C.K (C.ca c') ∧ PySem.W.kitOne C.K (.ref (C.ca c')) (cvU C oc) = some b
theorem XOk.dn {G : EC} {C : Cn} {P : Prg} {R RM : Rec} {W : WX} {X : Cx} (x : XOk G C P R RM W X) (d : List Str) : XOk { G with dn := d } C P R RM W X :=
  ⟨x.K, x.N, x.nd, x.scn, x.sck, x.fnc, x.calm, x.hu, x.tk, x.po, x.F, x.gl, x.bn, x.fld, x.mnm, x.mth, x.sub, x.isx⟩
theorem EC.vis_ok {G : EC} {X : Cx} {x : Str} (h : X.env.scope.names = G.sc) (v : G.vis x = true) : Vis X.env.scope x := by
  unfold EC.vis at v
  unfold Vis
  rw [h]
  split at v
  · exact .inl (by assumption)
  · exact .inr (.inl (by assumption))
  · exact .inr (.inr (by assumption))
  · cases v
theorem EC.isG_ok {G : EC} {X : Cx} {x : Str} (h : X.env.scope.names = G.sc) (v : G.isG x = true) : Gl X x := by
  unfold EC.isG at v
  show X.env.scope.names.lookup x = _
  rw [h]
  split at v
  · assumption
  · cases v
theorem EC.sto_ok {G : EC} {X : Cx} {x : Str} (h : X.env.scope.names = G.sc) (hf : ∀ x, G.own.contains x = true → X.fn x = true) (v : G.sto x = true) : L2.Loc X.env.scope x ∧ (X.fn x = true ∨ X.env.scope.names.lookup x = some .local) := by
  unfold EC.sto at v
  unfold L2.Loc
  rw [h]
  split at v
  · exact ⟨.inl (by assumption), .inr (by assumption)⟩
  · exact ⟨.inr (by assumption), .inl (hf x v)⟩
  · cases v
theorem badN_ok {x : Str} (h : (!badN x) = true) : (x == ("__debug__" : Str)) = false ∧ (x == ("__classdict__" : Str)) = false ∧ x ≠ "__name__" := by
  unfold badN at h
  rw [Bool.not_eq_true', Bool.or_eq_false_iff, Bool.or_eq_false_iff] at h
  exact ⟨h.1, h.2.1, beq_eq_false_iff_ne.mp h.2.2⟩
theorem NoPlain {b : Expr} (h : noSlice b = true) : PlainIx b := by
  intro o i
  cases b <;> first | rfl | cases h
section
variable {G : EC} {C : Cn} {P : Prg} {R RM : Rec} {W : WX} {X : Cx}
/-- what is shown of an expression -/
def Good (X : Cx) (C : Cn) (P : Prg) (R RM : Rec) (W : WX) (e : Expr) (ir : Ex) : Prop := notStar e = true ∧ PE X e (LE C W (wpE P R RM ir)) ∧ (tst e = true → PT X e (LT C W (wpE P R RM ir)))
variable (mR : MonoR R) (mM : MonoR RM)
include mR mM
theorem mE (ir : Ex) : MonoE (wpE P R RM ir) := fun _ _ _ _ _ _ hq hE h => wpE_mono mR mM ir hq hE h
theorem mEs (ir : Exs) : MonoA (wpEs P R RM ir) := fun _ _ _ _ _ _ hq hE h => wpEs_mono mR mM ir hq hE h
theorem mO (ir : Ox) : ∀ env S Q Q' E E', (∀ d S, Q d S → Q' d S) → (∀ c S, E c S → E' c S) → wpO P R RM ir env S Q E → wpO P R RM ir env S Q' E' := fun _ _ _ _ _ _ hq hE h => wpO_mono mR mM ir hq hE h
theorem mI (ir : Itx) : MonoI (wpI P R RM ir) := fun _ _ _ _ _ _ hq hE h => wpI_mono mR mM ir hq hE h
theorem Good.plain {e : Expr} {ir : Ex} (hs : notStar e = true) (h : PE X e (LE C W (wpE P R RM ir))) (hp : ∀ whole, isTrue e X.env whole = (do let v ← whole; standAt e.pos; holding [v] (truthy v))) : Good X C P R RM W e ir :=
  ⟨hs, h, fun _ => plain_test h (mE mR mM ir) hp⟩
theorem elEs_ok {f : Expr → Option Ex} (hf : ∀ e ir, f e = some ir → Good X C P R RM W e ir) : ∀ {es : List Expr} {irs : Exs}, elEs f es = some irs → es.all notStar = true ∧ PA X es (LA C W (wpEs P R RM irs)) ∧ (es = [] → irs = .nil)
  | [], irs, h => by
    cases h
    exact ⟨rfl, s_nil, fun _ => rfl⟩
  | e :: es, irs, h => by
    simp only [elEs, Option.bind_eq_bind, Option.bind_eq_some_iff, Option.some.injEq] at h
    obtain ⟨a, ha, b, hb, rfl⟩ := h
    obtain ⟨h1, h2, _⟩ := hf e a ha
    obtain ⟨h3, h4, _⟩ := elEs_ok hf hb
    refine ⟨by rw [List.all_cons, h1, h3]; rfl, s_cons h2 h4 (mE mR mM a) (mEs mR mM b) (star1 h1), fun z => by cases z⟩
theorem elB_ok {f : Expr → Option Ex} (hf : ∀ e ir, f e = some ir → Good X C P R RM W e ir) {op : BoolOp} {pos : Pos} : ∀ {es : List Expr} {ir : Ex}, elB f op es = some ir →
    PE X (.BoolOp op es pos) (LE C W (wpE P R RM ir)) ∧ PW X (.BoolOp op es pos) (LT C W (wpE P R RM ir))
  | [], ir, h => by cases h
  | [a], ir, h => by
    simp only [elB, Option.bind_eq_bind, Option.bind_eq_some_iff, chk_some] at h
    obtain ⟨_, h0, ha⟩ := h
    obtain ⟨h1, h2, h3⟩ := hf a ir ha
    refine ⟨pe_one h2, ?_⟩
    cases op with
    | And => exact pw_and1 (h3 h0)
    | Or => exact pw_or1 (h3 h0)
  | a :: b :: rest, ir, h => by
    simp only [elB, Option.bind_eq_bind, Option.bind_eq_some_iff, chk_some] at h
    obtain ⟨_, h0, x, hx, y, hy, h⟩ := h
    obtain ⟨h1, h2, h3⟩ := hf a x hx
    obtain ⟨h4, h5⟩ := elB_ok hf (pos := pos) (show elB f op (b :: rest) = some y from hy)
    cases op with
    | And =>
      cases h
      exact ⟨s_an h2 h4 (mE mR mM x) (mE mR mM y), s_anW (h3 h0) h5 (mE mR mM x) (mE mR mM y)⟩
    | Or =>
      cases h
      exact ⟨s_or h2 h4 (mE mR mM x) (mE mR mM y), s_orW (h3 h0) h5 (mE mR mM x) (mE mR mM y)⟩
theorem elO_ok {f : Expr → Option Ex} (hf : ∀ e ir, f e = some ir → Good X C P R RM W e ir) {o : Option Expr} {ir : Ox} (h : elO f o = some ir) : PO X o (LO C W (wpO P R RM ir)) := by
  cases o with
  | none =>
    cases h
    exact s_noO
  | some e =>
    simp only [elO, Option.bind_eq_bind, Option.bind_eq_some_iff, Option.some.injEq] at h
    obtain ⟨a, ha, rfl⟩ := h
    exact s_someO (hf e a ha).2.1 (mE mR mM a)
omit mR mM in
theorem elTy_ok (x : XOk G C P R RM W X) {e : Expr} {t : Ty} (h : elTy G e = some t) : ∃ n, t.nm = some n ∧ PE X e (tC (.ty n)) ∧ notStar e = true := by
  cases e with
  | Name y p =>
    simp only [elTy, Option.bind_eq_bind, Option.bind_eq_some_iff, chk_some, Bool.and_eq_true] at h
    obtain ⟨_, ⟨⟨h1, h2⟩, h3⟩, h⟩ := h
    have hg := EC.isG_ok x.scn h1
    have hm := x.bn y h2
    obtain ⟨b1, b2, b3⟩ := badN_ok h3
    have fin : ∀ n : String, bootBuiltins y = some (.type n) → PE X (.Name y p) (tC (.ty n)) := fun n hb => pe_bltn hg hm hb rfl b3 b1
    simp only [tyNs, List.lookup_cons] at h
    repeat (split at h <;> first | (rename_i q; cases h; have q := eq_of_beq q; subst q; exact ⟨_, rfl, fin _ (by decide +kernel), rfl⟩) | skip)
    cases h
  | _ => cases h
omit mR mM in
theorem elTys_ok (x : XOk G C P R RM W X) : ∀ {es : List Expr} {ts : List Ty}, elTys G es = some ts → ∃ vs, tysV ts = some vs ∧ PTys X es vs ∧ es.length = vs.length
  | [], ts, h => by
    cases h
    exact ⟨[], rfl, pa_nil.mono fun _ _ _ q => q, rfl⟩
  | e :: es, ts, h => by
    simp only [elTys, Option.bind_eq_bind, Option.bind_eq_some_iff, Option.some.injEq] at h
    obtain ⟨a, ha, b, hb, rfl⟩ := h
    obtain ⟨n, h1, h2, h3⟩ := elTy_ok x ha
    obtain ⟨vs, h4, h5, h6⟩ := elTys_ok x hb
    refine ⟨.ty n :: vs, ?_, (pa_cons h2 h5 (star1 h3)).mono fun _ _ _ q => q, by rw [List.length_cons, List.length_cons, h6]⟩
    unfold tysV
    rw [h1, h4]
theorem cop_rule (x : XOk G C P R RM W X) (op : CmpOp) : OpR X (compareOp op) (CopR C (copOf op)) := by
  cases op
  · exact copr_eq x.K x.hu
  · exact copr_ne x.K x.hu
  · exact copr_lt x.K x.hu
  · exact copr_le x.K x.hu
  · exact copr_gt x.K x.hu
  · exact copr_ge x.K x.hu
  · exact copr_is x.K x.hu
  · exact copr_isnot x.K x.hu
  · exact copr_in x.K x.hu
  · exact copr_notin x.K x.hu
theorem bop_rule (x : XOk G C P R RM W X) {op : Operator} {o : Bop} (h : bopOf op = some o) : OpR X (binaryOp op) (R2D C (wpBin o)) := by
  cases op <;> cases h
  · exact opr_add x.K
  · exact opr_sub x.K
  · exact opr_mul x.K
  · exact opr_mod x.K
  · exact opr_pow x.K
  · exact opr_fdiv x.K
end
end SW
/-! SW, part M: the way from the text is right: expressions, as a whole. -/
namespace SW
open PySem PySem.Spec PyProof.Rows L2
/-! ### f-strings of texts and ints -/
def wpG (P : Prg) (R RM : Rec) : List Ex → D → Env → Store → PQ → PX → Prop
  | [], a, _, S, Q, _ => Q a S
  | x :: xs, a, env, S, Q, E => wpE P R RM x env S (fun b S1 => wpBin .add a b S1 fun c S2 => wpG P R RM xs c env S2 Q E) E
theorem fold_eq {P : Prg} {R RM : Rec} {env : Env} {Q : PQ} {E : PX} : ∀ (xs : List Ex) (A : Ex) (S : Store), wpE P R RM (xs.foldl (fun a x => .bin .add a x) A) env S Q E = wpE P R RM A env S (fun a S1 => wpG P R RM xs a env S1 Q E) E
  | [], A, S => rfl
  | x :: xs, A, S => by
    rw [List.foldl_cons, fold_eq xs]
    rfl
theorem s_fmt {X : Cx} {C : Cn} {W : WX} {P : Prg} {R RM : Rec} (mR : MonoR R) (mM : MonoR RM) {e : Expr} {pos : Pos} {x : Ex} (he : PE X e (LE C W (wpE P R RM x))) : PE X (.FormattedValue e (-1) none pos) (LE C W (wpE P R RM (.blt .str (.cons x .nil)))) := by
  refine (pe_fmt he).mono fun σ H Q ⟨env, S, r, q⟩ => LE.use (mE mR mM x) r q (fun _ _ z => z) fun d1 S1 v1 H1 x1 r1 q1 k1 => ?_
  cases d1 with
  | int i =>
    cases q1
    exact .inr ⟨i, rfl, k1.1, (QV.ext x1 _ _ k1.2).at r1.2.2 (.str _)⟩
  | _ => cases k1
theorem s_joined {C : Cn} {W : WX} {P : Prg} {R RM : Rec} (mR : MonoR R) (mM : MonoR RM) {σ : St2} {Q : VK} : ∀ (xs : List Ex) (s : Str) (env : Env) (S : Store) (H H0 : Hp), Ext C.K H0 H → Rl C σ H env S → wpG P R RM xs (.str s) env S (QV C H0 Q) (XW C W σ H0) →
    tJs (xs.map fun x => LE C W (wpE P R RM x)) s σ H (fun out H1 => Q (.str out) H1)
  | [], s, env, S, H, H0, x0, r, q => (QV.ext x0 _ _ q).at r.2.2 (.str _)
  | x :: xs, s, env, S, H, H0, x0, r, q => by
    rw [List.map_cons]
    refine LE.use (mE mR mM x) r q (XW.ext x0) fun d1 S1 v1 H1 x1 r1 q1 k1 => ?_
    cases d1 with
    | str t =>
      cases q1
      exact ⟨t, rfl, by rw [Str.length_append]; exact k1.1, s_joined mR mM xs (s ++ t) env S1 H1 H0 (x0.trans x1) r1 k1.2⟩
    | _ => cases k1
theorem s_join {X : Cx} {C : Cn} {W : WX} {P : Prg} {R RM : Rec} (mR : MonoR R) (mM : MonoR RM) {v1 v2 : Expr} {rest : List Expr} {pos : Pos} {xs : List Ex} (h : PJ X (v1 :: v2 :: rest) (xs.map fun x => LE C W (wpE P R RM x))) :
    PE X (.JoinedStr (v1 :: v2 :: rest) pos) (LE C W (wpE P R RM (xs.foldl (fun a x => .bin .add a x) (.cst (.str Str.empty))))) := by
  refine (pe_joined h).mono fun σ H Q ⟨env, S, r, q⟩ => ?_
  rw [fold_eq] at q
  exact s_joined mR mM xs Str.empty env S H H .refl r q
theorem elFs_ok {X : Cx} {C : Cn} {W : WX} {P : Prg} {R RM : Rec} (mR : MonoR R) (mM : MonoR RM) {f : Expr → Option Ex} (hf : ∀ e x, f e = some x → PE X e (LE C W (wpE P R RM x))) : ∀ {es : List Expr} {xs : List Ex}, elFs f es = some xs → PJ X es (xs.map fun x => LE C W (wpE P R RM x))
  | [], xs, h => by cases h; exact .nil
  | e :: es, xs, h => by
    simp only [elFs, Option.bind_eq_bind, Option.bind_eq_some_iff, Option.some.injEq] at h
    obtain ⟨a, ha, b, hb, rfl⟩ := h
    refine .cons ?_ (elFs_ok mR mM hf hb)
    unfold elFp at ha
    split at ha
    · split at ha
      · rename_i hc
        simp only [Option.bind_eq_some_iff, Option.some.injEq] at ha
        obtain ⟨x, hx, rfl⟩ := ha
        subst hc
        exact s_fmt mR mM (hf _ _ hx)
      · cases ha
    · cases ha
      exact s_cst pe_str fun _ => .str _
    · cases ha
section
theorem s_lset {X : Cx} {C : Cn} {W : WX} (hK : X.K = C.K) (hc : X.calm = true) {a : Expr} {p1 p2 pos1 pos2 : Pos} {wa : WE} (g1 : Gl X "len") (m1 : X.mg "len" = none) (g2 : Gl X "set") (m2 : X.mg "set" = none) (ha : PE X a (LE C W wa)) (ma : MonoE wa) (ns : notStar a = true) :
    PE X (.Call (.Name "len" p1) [.Call (.Name "set" p2) [a] [] pos1] [] pos2) (LE C W fun env S Q E => wa env S (fun x S1 => wpLset x S1 Q) E) := by
  have hin := pe_callTy (cr_setL hc) g2 m2 (pos := pos1) (p := p2) PyProof.Rows.boot_set (pa_cons ha pa_nil (star1 ns)) (he := star1 ns)
  refine (pe_callB cr_lenSet g1 m1 (by decide +kernel) (pa_cons hin pa_nil (by rfl))).mono fun σ H Q ⟨env, S, r, q⟩ => ?_
  show LE C W wa σ H fun x H1 => rSetL X.w X.K [x] H1 fun v H2 => rLenSet X.w [v] H2 Q
  refine LE.use ma r q (fun _ _ z => z) fun d1 S1 v1 H1 x1 r1 q1 ⟨b, xs, ks, e1, e2, e3, few, k⟩ => ?_
  subst e1
  cases q1
  obtain ⟨vs, h1, h2⟩ := r1.2.2.lst e2
  cases h2.ints e3
  exact ⟨b, ks, rfl, hK ▸ SqL.of h1, few, fun p c lc hp => ⟨p, ks, c, rfl, by unfold L2.upd; exact if_pos rfl, by omega, QV.ext (Ext.new hp) _ _ (QV.ext x1 _ _ k) |>.at (r1.2.2.new0 hp) (.int _)⟩⟩
theorem s_rvl {X : Cx} {C : Cn} {W : WX} (hK : X.K = C.K) (hc : X.calm = true) {a : Expr} {p1 p2 pos1 pos2 : Pos} {wa : WE} (g1 : Gl X "list") (m1 : X.mg "list" = none) (g2 : Gl X "reversed") (m2 : X.mg "reversed" = none) (ha : PE X a (LE C W wa)) (ma : MonoE wa) (ns : notStar a = true) :
    PE X (.Call (.Name "list" p1) [.Call (.Name "reversed" p2) [a] [] pos1] [] pos2) (LE C W fun env S Q E => wa env S (fun x S1 => ∃ xs, seqRef S1 x = some xs ∧ ∀ p, S1 p = none → Q (.ref p) (S1.upd p (.lst xs.reverse))) E) := by
  refine (pe_listRev hc g1 m1 g2 m2 ha (star1 ns)).mono fun σ H Q ⟨env, S, r, q⟩ => LE.use ma r q (fun _ _ z => z) fun d1 S1 v1 H1 x1 r1 q1 ⟨xs, e, k⟩ => ?_
  have rev : ∀ {vs : List V} {ds : List D}, RVs C.K H1 vs ds → RVs C.K H1 vs.reverse ds.reverse := by
    intro vs ds h
    induction ds generalizing vs with
    | nil => cases h; exact .nil
    | cons d ds ih =>
      cases h with
      | cons h1 h2 =>
        rw [List.reverse_cons, List.reverse_cons]
        exact (ih h2).append (.cons h1 .nil)
  have fin : ∀ (p : Addr) (vs : List V), SqL C.K H1 p vs → RVs C.K H1 vs xs → ∃ a xs', V.ref p = .ref a ∧ SqL X.K H1 a xs' ∧ ∀ p, H1 p = none → Q (.ref p) (L2.upd H1 p (.lst xs'.reverse)) := fun p vs h rr =>
    ⟨p, vs, rfl, hK ▸ h, fun l hl => QV.new (fun p hp => QV.ext x1 _ _ (k p hp)) r1.2.2 (rev rr) hl⟩
  cases q1 with
  | rl t rr => cases e; exact fin _ _ t.sq rr
  | ref a =>
    simp only [seqRef] at e
    cases e1 : S1 a with
    | none => rw [e1] at e; cases e
    | some c =>
      rw [e1] at e
      cases c with
      | lst ys =>
        cases e
        obtain ⟨vs, e2, q⟩ := r1.2.2.lst e1
        exact fin _ _ (.of e2) q
      | dic _ => cases e
      | ins _ _ => cases e
      | fz _ => cases e
  | _ => cases e
theorem s_sset {X : Cx} {C : Cn} {W : WX} (hK : X.K = C.K) (hc : X.calm = true) {a : Expr} {p1 p2 pos1 pos2 : Pos} {wa : WE} (g1 : Gl X "sorted") (m1 : X.mg "sorted" = none) (g2 : Gl X "set") (m2 : X.mg "set" = none) (ha : PE X a (LE C W wa)) (ma : MonoE wa) (ns : notStar a = true) :
    PE X (.Call (.Name "sorted" p1) [.Call (.Name "set" p2) [a] [] pos1] [] pos2) (LE C W fun env S Q E => wa env S (fun x S1 => wpSset x S1 Q) E) := by
  have hin := pe_callTy (cr_setL hc) g2 m2 (pos := pos1) (p := p2) PyProof.Rows.boot_set (pa_cons ha pa_nil (star1 ns)) (he := star1 ns)
  refine (pe_callB (cr_sortedSet hc) g1 m1 (by decide +kernel) (pa_cons hin pa_nil (by rfl))).mono fun σ H Q ⟨env, S, r, q⟩ => ?_
  show LE C W wa σ H fun x H1 => rSetL X.w X.K [x] H1 fun v H2 => rSortedSet X.w [v] H2 Q
  refine LE.use ma r q (fun _ _ z => z) fun d1 S1 v1 H1 x1 r1 q1 ⟨b, xs, ks, e1, e2, e3, few, k⟩ => ?_
  subst e1
  cases q1
  obtain ⟨vs, h1, h2⟩ := r1.2.2.lst e2
  cases h2.ints e3
  refine ⟨b, ks, rfl, hK ▸ SqL.of h1, by omega, fun p c lc hp => ⟨p, _, c, rfl, by unfold L2.upd; exact if_pos rfl, by omega, fun ms p2 s m _ hp2 => ?_⟩⟩
  exact QV.new (ds := ms.map .int) (fun p hp' => QV.ext (Ext.new hp) _ _ (QV.ext x1 _ _ (k ms p s (fun j => (m j).trans decide_eq_true_iff) hp'))) (r1.2.2.new0 hp) RVs.ofInts hp2
end
section
variable {P : Prg} {R RM : Rec} (mR : MonoR R) (mM : MonoR RM)
theorem s_rvs {X : Cx} {C : Cn} {W : WX} (hK : X.K = C.K) {a : Expr} {k : Nat} {p1 p2 p3 pos : Pos} {wa : WE} (ha : PE X a (LE C W wa)) (ma : MonoE wa) :
    PE X (.Subscript a (.Slice none none (some (.UnaryOp .USub (.Constant (.int 1) k p1) p2)) p3) pos) (LE C W fun env S Q E => wa env S (fun x S1 => ∃ xs, seqRef S1 x = some xs ∧ ∀ p, S1 p = none → Q (.ref p) (S1.upd p (.lst xs.reverse))) E) := by
  refine (pe_revL ha).mono fun σ H Q ⟨env, S, r, q⟩ => LE.use ma r q (fun _ _ z => z) fun d1 S1 v1 H1 x1 r1 q1 ⟨xs, e, k⟩ => ?_
  have rev : ∀ {vs : List V} {ds : List D}, RVs C.K H1 vs ds → RVs C.K H1 vs.reverse ds.reverse := by
    intro vs ds h
    induction ds generalizing vs with
    | nil => cases h; exact .nil
    | cons d ds ih =>
      cases h with
      | cons h1 h2 =>
        rw [List.reverse_cons, List.reverse_cons]
        exact (ih h2).append (.cons h1 .nil)
  have fin : ∀ (p : Addr) (vs : List V), SqL C.K H1 p vs → RVs C.K H1 vs xs → ∃ a xs', V.ref p = .ref a ∧ SqL X.K H1 a xs' ∧ ∀ p, H1 p = none → Q (.ref p) (L2.upd H1 p (.lst xs'.reverse)) := fun p vs h rr =>
    ⟨p, vs, rfl, hK ▸ h, fun l hl => QV.new (fun p hp => QV.ext x1 _ _ (k p hp)) r1.2.2 (rev rr) hl⟩
  cases q1 with
  | rl t rr => cases e; exact fin _ _ t.sq rr
  | ref a =>
    simp only [seqRef] at e
    cases e1 : S1 a with
    | none => rw [e1] at e; cases e
    | some c =>
      rw [e1] at e
      cases c with
      | lst ys =>
        cases e
        obtain ⟨vs, e2, q⟩ := r1.2.2.lst e1
        exact fin _ _ (.of e2) q
      | dic _ => cases e
      | ins _ _ => cases e
      | fz _ => cases e
  | _ => cases e
def tgsLen : Tgs → Nat
  | .nil => 0
  | .cons _ ts => tgsLen ts + 1
theorem asgTs_n : ∀ {ts : Tgs} {ds : List D} {env env2 : Env}, asgTs ts ds env = some env2 → ds.length = tgsLen ts
  | .nil, [], _, _, _ => rfl
  | .nil, _ :: _, _, _, h => by cases h
  | .cons t ts, [], _, _, h => by cases h
  | .cons t ts, d :: ds, env, env2, h => by
    simp only [asgTs] at h
    split at h
    · cases h
    · exact congrArg (· + 1) (asgTs_n h)
theorem elTs_len : ∀ {n : Nat} {G : EC} {es : List Expr} {ts : Tgs}, elTs n G es = some ts → tgsLen ts = es.length ∧ ∀ env, (assignEach es env).length = es.length ∧ (assignEach es env).findIdx? (·.1) = none
  | 0, _, _, _, h => by simp only [elTs] at h; cases h
  | n + 1, G, [], ts, h => by
    simp only [elTs] at h
    cases h
    exact ⟨rfl, fun _ => ⟨rfl, rfl⟩⟩
  | n + 1, G, e :: es, ts, h => by
    simp only [elTs, Option.bind_eq_bind, Option.bind_eq_some_iff, Option.some.injEq] at h
    obtain ⟨t, ht, ts', hts, rfl⟩ := h
    obtain ⟨h1, h2⟩ := elTs_len hts
    refine ⟨congrArg (· + 1) h1, fun env => ?_⟩
    have e1 : assignEach (e :: es) env = (false, assign e env) :: assignEach es env := by
      cases n with
      | zero => simp only [elT] at ht; cases ht
      | succ n => cases e <;> first | rfl | (simp only [elT] at ht; cases ht)
    rw [e1]
    refine ⟨congrArg (· + 1) (h2 env).1, ?_⟩
    rw [List.findIdx?_cons, (h2 env).2]
    rfl
mutual
theorem elT_ok {G : EC} {C : Cn} {W : WX} {X : Cx} (x : XOk G C P R RM W X) : ∀ {n : Nat} {e : Expr} {t : Tg}, elT n G e = some t → PG X e (LG C t)
  | 0, _, _, h => by simp only [elT] at h; cases h
  | n + 1, .Name y p, t, h => by
    simp only [elT, Option.bind_eq_bind, Option.bind_eq_some_iff, chk_some, Option.some.injEq] at h
    obtain ⟨_, h1, i, hi, rfl⟩ := h
    obtain ⟨h2, h3⟩ := EC.sto_ok x.scn x.fnc h1
    exact g_name (pg_name x.nd (by rw [x.N]; exact ixOf_ok hi) h2 h3)
  | n + 1, .Tuple es k p, t, h => by
    simp only [elT, Option.bind_eq_bind, Option.bind_eq_some_iff, Option.some.injEq] at h
    obtain ⟨ts, hts, rfl⟩ := h
    obtain ⟨h1, h2⟩ := elTs_len hts
    exact g_tup x.K x.calm (elTs_ok x hts) es.length (h2 _).1 (h2 _).2 fun ds env env2 q => (asgTs_n q).trans h1
  | n + 1, .BoolOp .., t, h => by simp only [elT] at h; cases h
  | n + 1, .NamedExpr .., t, h => by simp only [elT] at h; cases h
  | n + 1, .BinOp .., t, h => by simp only [elT] at h; cases h
  | n + 1, .UnaryOp .., t, h => by simp only [elT] at h; cases h
  | n + 1, .Lambda .., t, h => by simp only [elT] at h; cases h
  | n + 1, .IfExp .., t, h => by simp only [elT] at h; cases h
  | n + 1, .Dict .., t, h => by simp only [elT] at h; cases h
  | n + 1, .Set .., t, h => by simp only [elT] at h; cases h
  | n + 1, .ListComp .., t, h => by simp only [elT] at h; cases h
  | n + 1, .SetComp .., t, h => by simp only [elT] at h; cases h
  | n + 1, .DictComp .., t, h => by simp only [elT] at h; cases h
  | n + 1, .GeneratorExp .., t, h => by simp only [elT] at h; cases h
  | n + 1, .Await .., t, h => by simp only [elT] at h; cases h
  | n + 1, .Yield .., t, h => by simp only [elT] at h; cases h
  | n + 1, .YieldFrom .., t, h => by simp only [elT] at h; cases h
  | n + 1, .Compare .., t, h => by simp only [elT] at h; cases h
  | n + 1, .Call .., t, h => by simp only [elT] at h; cases h
  | n + 1, .FormattedValue .., t, h => by simp only [elT] at h; cases h
  | n + 1, .JoinedStr .., t, h => by simp only [elT] at h; cases h
  | n + 1, .Constant .., t, h => by simp only [elT] at h; cases h
  | n + 1, .Attribute .., t, h => by simp only [elT] at h; cases h
  | n + 1, .Subscript .., t, h => by simp only [elT] at h; cases h
  | n + 1, .Starred .., t, h => by simp only [elT] at h; cases h
  | n + 1, .List .., t, h => by simp only [elT] at h; cases h
  | n + 1, .Slice .., t, h => by simp only [elT] at h; cases h
theorem elTs_ok {G : EC} {C : Cn} {W : WX} {X : Cx} (x : XOk G C P R RM W X) : ∀ {n : Nat} {es : List Expr} {ts : Tgs}, elTs n G es = some ts → PGs X es (LGs C ts)
  | 0, _, _, h => by simp only [elTs] at h; cases h
  | n + 1, [], ts, h => by
    simp only [elTs] at h
    cases h
    exact g_nil
  | n + 1, e :: es, ts, h => by
    have hl := elTs_len h
    simp only [elTs, Option.bind_eq_bind, Option.bind_eq_some_iff, Option.some.injEq] at h
    obtain ⟨t, ht, ts', hts, rfl⟩ := h
    refine g_cons (elT_ok x ht) (elTs_ok x hts) ?_
    cases n with
    | zero => simp only [elT] at ht; cases ht
    | succ n => cases e <;> first | rfl | (simp only [elT] at ht; cases ht)
end
theorem bmtNs_ok {m : Str} {b : Bmt} (hb : bmtNs.lookup m = some b) : bmtNm b = m := by
  simp only [bmtNs, List.lookup_cons] at hb
  repeat (split at hb <;> first | (rename_i q; cases hb; exact (eq_of_beq q).symm) | skip)
  cases hb
include mR mM
theorem elI_ok {G : EC} {C : Cn} {W : WX} {X : Cx} (x : XOk G C P R RM W X) {f : Expr → Option Ex} (hf : ∀ e ir, f e = some ir → Good X C P R RM W e ir) {tg iter : Expr} {it : Itx} (h : elI f G tg iter = some it) :
    PI X tg iter (LI C W (wpI P R RM it)) ∧ ∀ v, foldedSetIterable iter X.env v = pure v := by
  have plain : ∀ (e : Expr) (a : Ex), f e = some a → PI X tg e (LI C W (wpI P R RM (.seq a))) := fun e a ha => i_seq x.K (hf e a ha).2.1 (mE mR mM a)
  unfold elI at h
  split at h
  · split at h
    · rename_i y p args pos hy
      simp only [Option.bind_eq_bind, Option.bind_eq_some_iff, chk_some, Bool.and_eq_true] at h
      obtain ⟨_, ⟨h1, h2⟩, h⟩ := h
      subst hy
      have hg := EC.isG_ok x.scn h1
      have hm := x.bn _ h2
      split at h
      · simp only [Option.bind_eq_bind, Option.bind_eq_some_iff, Option.some.injEq] at h
        obtain ⟨a', ha, rfl⟩ := h
        obtain ⟨g1, g2, _⟩ := hf _ _ ha
        exact ⟨i_rng1 hg hm g2 (mE mR mM a') g1, fun _ => rfl⟩
      · simp only [Option.bind_eq_bind, Option.bind_eq_some_iff, Option.some.injEq] at h
        obtain ⟨a', ha, b', hb, rfl⟩ := h
        obtain ⟨g1, g2, _⟩ := hf _ _ ha
        obtain ⟨g3, g4, _⟩ := hf _ _ hb
        exact ⟨i_rng2 hg hm g2 g4 (mE mR mM a') (mE mR mM b') g1 g3, fun _ => rfl⟩
      · cases h
    · split at h
      · rename_i y p args pos _ hy
        simp only [Option.bind_eq_bind, Option.bind_eq_some_iff, chk_some, Bool.and_eq_true] at h
        obtain ⟨_, ⟨h1, h2, h3⟩, h⟩ := h
        subst hy
        have hg := EC.isG_ok x.scn h1
        have hm := x.bn _ h2
        split at h
        · simp only [Option.bind_eq_bind, Option.bind_eq_some_iff, Option.some.injEq] at h
          obtain ⟨a', ha, rfl⟩ := h
          obtain ⟨g1, g2, _⟩ := hf _ _ ha
          cases tg with
          | Tuple elts kk tpos => exact ⟨i_enu x.K hg hm g2 (mE mR mM a') g1, fun _ => rfl⟩
          | _ => cases h3
        · cases h
      · split at h
        · rename_i y p args pos _ _ hy
          simp only [Option.bind_eq_bind, Option.bind_eq_some_iff, chk_some, Bool.and_eq_true] at h
          obtain ⟨_, ⟨h1, h2, h3⟩, h⟩ := h
          subst hy
          have hg := EC.isG_ok x.scn h1
          have hm := x.bn _ h2
          split at h
          · simp only [Option.bind_eq_bind, Option.bind_eq_some_iff, Option.some.injEq] at h
            obtain ⟨a', ha, b', hb, rfl⟩ := h
            obtain ⟨g1, g2, _⟩ := hf _ _ ha
            obtain ⟨g3, g4, _⟩ := hf _ _ hb
            cases tg with
            | Tuple elts kk tpos => exact ⟨i_zip x.K hg hm g2 g4 (mE mR mM a') (mE mR mM b') g1 g3, fun _ => rfl⟩
            | _ => cases h3
          · cases h
        · simp only [Option.bind_eq_bind, Option.bind_eq_some_iff, Option.some.injEq] at h
          obtain ⟨a, ha, rfl⟩ := h
          exact ⟨plain _ a ha, fun _ => rfl⟩
  · simp only [Option.bind_eq_bind, Option.bind_eq_some_iff, chk_some, Option.some.injEq] at h
    obtain ⟨_, h1, a, ha, rfl⟩ := h
    refine ⟨plain _ a ha, fun v => ?_⟩
    cases iter <;> first | rfl | cases h1
omit mR mM in
theorem XOk.blk {G : EC} {C : Cn} {W : WX} {X : Cx} (x : XOk G C P R RM W X) {scope : Scope} {own : List (Str × Nat)} (ok : BlkOk X.N X.env.scope scope own) (s : Shared) (H : Hp) (a : Addr) (cl : List (Str × Addr)) (fp : List Addr) :
    XOk (G.blk scope) C P R RM noW (X.blk s H scope (compEnvC scope cl a X.env) fp) where
  K := x.K
  N := x.N
  nd := x.nd
  scn := by
    show (relabel scope X.env).names = relabelN G.sc scope.names
    unfold relabel relabelN
    rw [← x.scn]
    have e : (X.env.scope.kind == ScopeKind.function) = true := by rw [x.sck]; rfl
    simp only [e, Bool.and_true]
    rfl
  sck := ok.kind
  fnc := fun y hy => by
    have hy : ((scope.names.filter fun p => p.2 == .cell).map (·.1)).contains y = true := hy
    rw [List.contains_iff_mem, List.mem_map] at hy
    obtain ⟨p, hp, e⟩ := hy
    rw [List.mem_filter] at hp
    have u := ok.uniq p hp.1
    show (scope.names.lookup y == some .cell) = true
    rw [← e, u]
    exact hp.2
  calm := x.calm
  hu := x.hu
  tk := fun u s' ⟨_, _, _, _, _, _, _, _, _, _, _, _, _, _, _, _, w⟩ => w.elim
  po := PassesOwn.never
  F := x.F
  gl := fun y g h => by
    have q := x.gl y g h
    cases g with
    | cst d => exact q
    | fn f => obtain ⟨b, h1, h2, h3⟩ := q; exact ⟨b, h1, h2, fun Y W' s => h3 Y W' ⟨s.prog, s.w, s.K, s.mg, s.base, s.A⟩⟩
    | cls c => obtain ⟨b, h1, h2, h3⟩ := q; exact ⟨b, h1, h2, fun Y W' s => h3 Y W' ⟨s.prog, s.w, s.K, s.mg, s.base, s.A⟩⟩
    | exc c => exact q
  bn := x.bn
  fld := x.fld
  mnm := x.mnm
  mth := fun m Y W' s => x.mth m Y W' ⟨s.prog, s.w, s.K, s.mg, s.base, s.A⟩
  sub := x.sub
  isx := x.isx
theorem comp_parts {n : Nat} {G : EC} {C : Cn} {W : WX} {X : Cx} (x : XOk G C P R RM W X) {r : EC → Expr → Option Ex} (hf : ∀ e ir, r G e = some ir → Good X C P R RM W e ir)
    (ih : ∀ (G' : EC) (W' : WX) (X' : Cx), XOk G' C P R RM W' X' → ∀ e ir, r G' e = some ir → Good X' C P R RM W' e ir) {elt tg iter : Expr} {ifs : List Expr} {scope : Scope} {ir : Ex}
    (h : (do
      let it ← elI (r G) G tg iter
      let own ← mapO (fun x => (ixOf x G.N).map fun i => (x, i)) (tgNs n tg)
      chk (blkC G.N (scOf G.sc) scope own)
      let t ← elT n (G.blk scope) tg
      chk (tgIn (own.map (·.2)) t)
      let c ← elC (r (G.blk scope)) ifs
      let e ← r (G.blk scope) elt
      some (Ex.comp e t it c (own.map (·.2)))) = some ir) :
    ∃ (it : Itx) (own : List (Str × Nat)) (t : Tg) (c v : Ex), ir = .comp v t it c (own.map (·.2)) ∧ PI X tg iter (LI C W (wpI P R RM it)) ∧ (∀ z, foldedSetIterable iter X.env z = pure z) ∧ BlkOk X.N X.env.scope scope own ∧
      (∀ (s : Shared) (H : Hp) (a : Addr) (cl : List (Str × Addr)) (fp : List Addr), PG (X.blk s H scope (compEnvC scope cl a X.env) fp) tg (LG C t)) ∧
      (∀ (s : Shared) (H : Hp) (a : Addr) (cl : List (Str × Addr)) (fp : List Addr), PTs (X.blk s H scope (compEnvC scope cl a X.env) fp) ifs (LT C noW (wpE P R RM c))) ∧
      (∀ (s : Shared) (H : Hp) (a : Addr) (cl : List (Str × Addr)) (fp : List Addr), PE (X.blk s H scope (compEnvC scope cl a X.env) fp) elt (LE C noW (wpE P R RM v))) ∧ tgIn (own.map (·.2)) t = true := by
  simp only [Option.bind_eq_bind, Option.bind_eq_some_iff, chk_some, Option.some.injEq] at h
  obtain ⟨it, hit, own, hown, _, hblk, t, ht, _, hin, c, hc, v, hv, rfl⟩ := h
  obtain ⟨i1, i2⟩ := elI_ok mR mM x hf hit
  have ok0 := blkOk_by hblk
  have ok : BlkOk X.N X.env.scope scope own := ⟨ok0.kind, ok0.uniq, by rw [x.N]; exact ok0.ix, fun y hy e => by rw [x.scn]; exact ok0.free y hy e, by rw [x.N]; exact ok0.own⟩
  have xb := fun s H a cl fp => x.blk ok s H a cl fp
  refine ⟨it, own, t, c, v, rfl, i1, i2, ok, fun s H a cl fp => elT_ok (xb s H a cl fp) ht, fun s H a cl fp => ?_, fun s H a cl fp => (ih _ _ _ (xb s H a cl fp) _ _ hv).2.1, hin⟩
  unfold elC at hc
  split at hc
  · cases hc
    exact ⟨fun pins s σ H Q I ⟨env, S, r, q⟩ => pts_nil.run pins s σ H Q I (by
      obtain ⟨b, e, z⟩ := q
      cases e
      exact z H Ext.refl r.2.2)⟩
  · simp only [Option.bind_eq_bind, Option.bind_eq_some_iff, chk_some] at hc
    obtain ⟨_, h0, hc⟩ := hc
    exact pts_one ((ih _ _ _ (xb s H a cl fp) _ _ hc).2.2 h0)
  · cases hc
theorem comp_partsD {n : Nat} {G : EC} {C : Cn} {W : WX} {X : Cx} (x : XOk G C P R RM W X) {r : EC → Expr → Option Ex} (hf : ∀ e ir, r G e = some ir → Good X C P R RM W e ir)
    (ih : ∀ (G' : EC) (W' : WX) (X' : Cx), XOk G' C P R RM W' X' → ∀ e ir, r G' e = some ir → Good X' C P R RM W' e ir) {elt tg iter : Expr} {ifs : List Expr} {scope : Scope} {ir : Ex} {items : Bool} {a : Expr} (hd : dwalk G tg iter = some (items, a))
    (h : (do
      let d ← r G a
      let own ← mapO (fun x => (ixOf x G.N).map fun i => (x, i)) (tgNs n tg)
      chk (blkC G.N (scOf G.sc) scope own)
      let t ← elT n (G.blk scope) tg
      chk (tgIn (own.map (·.2)) t)
      let c ← elC (r (G.blk scope)) ifs
      let e ← r (G.blk scope) elt
      some (Ex.compD e t items d c (own.map (·.2)))) = some ir) :
    ∃ (d : Ex) (own : List (Str × Nat)) (t : Tg) (c v : Ex), ir = .compD v t items d c (own.map (·.2)) ∧ PI X tg iter (if items = true then iItems (LE C W (wpE P R RM d)) else iKeys (LE C W (wpE P R RM d))) ∧ (∀ z, foldedSetIterable iter X.env z = pure z) ∧ BlkOk X.N X.env.scope scope own ∧
      (∀ (s : Shared) (H : Hp) (a : Addr) (cl : List (Str × Addr)) (fp : List Addr), PG (X.blk s H scope (compEnvC scope cl a X.env) fp) tg (LG C t)) ∧
      (∀ (s : Shared) (H : Hp) (a : Addr) (cl : List (Str × Addr)) (fp : List Addr), PTs (X.blk s H scope (compEnvC scope cl a X.env) fp) ifs (LT C noW (wpE P R RM c))) ∧
      (∀ (s : Shared) (H : Hp) (a : Addr) (cl : List (Str × Addr)) (fp : List Addr), PE (X.blk s H scope (compEnvC scope cl a X.env) fp) elt (LE C noW (wpE P R RM v))) ∧ tgIn (own.map (·.2)) t = true := by
  simp only [Option.bind_eq_bind, Option.bind_eq_some_iff, chk_some, Option.some.injEq] at h
  obtain ⟨d, hit, own, hown, _, hblk, t, ht, _, hin, c, hc, v, hv, rfl⟩ := h
  obtain ⟨i1, i2⟩ := dwalk_ok hd (hf _ _ hit).2.1
  have ok0 := blkOk_by hblk
  have ok : BlkOk X.N X.env.scope scope own := ⟨ok0.kind, ok0.uniq, by rw [x.N]; exact ok0.ix, fun y hy e => by rw [x.scn]; exact ok0.free y hy e, by rw [x.N]; exact ok0.own⟩
  have xb := fun s H a cl fp => x.blk ok s H a cl fp
  refine ⟨d, own, t, c, v, rfl, i1, i2, ok, fun s H a cl fp => elT_ok (xb s H a cl fp) ht, fun s H a cl fp => ?_, fun s H a cl fp => (ih _ _ _ (xb s H a cl fp) _ _ hv).2.1, hin⟩
  unfold elC at hc
  split at hc
  · cases hc
    exact ⟨fun pins s σ H Q I ⟨env, S, r, q⟩ => pts_nil.run pins s σ H Q I (by
      obtain ⟨b, e, z⟩ := q
      cases e
      exact z H Ext.refl r.2.2)⟩
  · simp only [Option.bind_eq_bind, Option.bind_eq_some_iff, chk_some] at hc
    obtain ⟨_, h0, hc⟩ := hc
    exact pts_one ((ih _ _ _ (xb s H a cl fp) _ _ hc).2.2 h0)
  · cases hc
omit mR mM in
theorem isB_ok {G : EC} {x y : Str} (h : isB G x y = true) : x = y ∧ G.isG x = true ∧ G.bn.contains x = true := by
  unfold isB at h
  rw [Bool.and_eq_true, Bool.and_eq_true, decide_eq_true_eq] at h
  exact h
omit mR mM in
theorem special1 {G : EC} {x : Str} {args : List Expr} {a : Expr} (h : special G x args = some (.lr1 a)) : ∃ p pos, args = [.Call (.Name "range" p) [a] [] pos] ∧ x = "list" ∧ G.isG "list" = true ∧ G.bn.contains "list" = true ∧ G.isG "range" = true ∧ G.bn.contains "range" = true ∧ notStar a = true := by
  unfold special at h
  split at h
  · split at h
    · rename_i hc
      cases h
      rw [Bool.and_eq_true, Bool.and_eq_true] at hc
      obtain ⟨rfl, a1, a2⟩ := isB_ok hc.1
      obtain ⟨rfl, b1, b2⟩ := isB_ok hc.2.1
      exact ⟨_, _, rfl, rfl, a1, a2, b1, b2, hc.2.2⟩
    · repeat (first | (split at h; cases h) | cases h)
  · split at h <;> cases h
  · cases h
omit mR mM in
theorem special3 {G : EC} {x : Str} {args : List Expr} {a : Expr} (h : special G x args = some (.ss a)) : ∃ p pos, args = [.Call (.Name "set" p) [a] [] pos] ∧ x = "sorted" ∧ G.isG "sorted" = true ∧ G.bn.contains "sorted" = true ∧ G.isG "set" = true ∧ G.bn.contains "set" = true ∧ notStar a = true := by
  unfold special at h
  split at h
  · split at h
    · cases h
    · split at h
      · rename_i hc
        cases h
        rw [Bool.and_eq_true, Bool.and_eq_true] at hc
        obtain ⟨rfl, a1, a2⟩ := isB_ok hc.1
        obtain ⟨rfl, b1, b2⟩ := isB_ok hc.2.1
        exact ⟨_, _, rfl, rfl, a1, a2, b1, b2, hc.2.2⟩
      · repeat (first | (split at h; cases h) | cases h)
  · split at h <;> cases h
  · cases h
omit mR mM in
theorem special4 {G : EC} {x : Str} {args : List Expr} {a : Expr} (h : special G x args = some (.ls a)) : ∃ p pos, args = [.Call (.Name "set" p) [a] [] pos] ∧ x = "len" ∧ G.isG "len" = true ∧ G.bn.contains "len" = true ∧ G.isG "set" = true ∧ G.bn.contains "set" = true ∧ notStar a = true := by
  unfold special at h
  split at h
  · split at h
    · cases h
    · split at h
      · cases h
      · split at h
        · rename_i hc
          cases h
          rw [Bool.and_eq_true, Bool.and_eq_true] at hc
          obtain ⟨rfl, a1, a2⟩ := isB_ok hc.1
          obtain ⟨rfl, b1, b2⟩ := isB_ok hc.2.1
          exact ⟨_, _, rfl, rfl, a1, a2, b1, b2, hc.2.2⟩
        · split at h <;> cases h
  · split at h <;> cases h
  · cases h
omit mR mM in
theorem special5 {G : EC} {x : Str} {args : List Expr} {a : Expr} (h : special G x args = some (.rv a)) : ∃ p pos, args = [.Call (.Name "reversed" p) [a] [] pos] ∧ x = "list" ∧ G.isG "list" = true ∧ G.bn.contains "list" = true ∧ G.isG "reversed" = true ∧ G.bn.contains "reversed" = true ∧ notStar a = true := by
  unfold special at h
  split at h
  · split at h
    · cases h
    · split at h
      · cases h
      · split at h
        · cases h
        · split at h
          · rename_i hc
            cases h
            rw [Bool.and_eq_true, Bool.and_eq_true] at hc
            obtain ⟨rfl, a1, a2⟩ := isB_ok hc.1
            obtain ⟨rfl, b1, b2⟩ := isB_ok hc.2.1
            exact ⟨_, _, rfl, rfl, a1, a2, b1, b2, hc.2.2⟩
          · cases h
  · split at h <;> cases h
  · cases h
omit mR mM in
theorem special2 {G : EC} {x : Str} {args : List Expr} {a b : Expr} (h : special G x args = some (.lr2 a b)) : ∃ p pos, args = [.Call (.Name "range" p) [a, b] [] pos] ∧ x = "list" ∧ G.isG "list" = true ∧ G.bn.contains "list" = true ∧ G.isG "range" = true ∧ G.bn.contains "range" = true ∧ notStar a = true ∧ notStar b = true := by
  unfold special at h
  split at h
  · split at h
    · cases h
    · repeat (first | (split at h; cases h) | cases h)
  · split at h
    · rename_i hc
      cases h
      rw [Bool.and_eq_true, Bool.and_eq_true, Bool.and_eq_true] at hc
      obtain ⟨rfl, a1, a2⟩ := isB_ok hc.1
      obtain ⟨rfl, b1, b2⟩ := isB_ok hc.2.1
      exact ⟨_, _, rfl, rfl, a1, a2, b1, b2, hc.2.2.1, hc.2.2.2⟩
    · cases h
  · cases h
theorem elPairs_ok {X : Cx} {C : Cn} {W : WX} {pos : Pos} {f : Expr → Option Ex} (hf : ∀ e ir, f e = some ir → Good X C P R RM W e ir) : ∀ {ks : List (Option Expr)} {vs : List Expr} {xs : Exs}, elPairs f ks vs = some xs →
    ∃ trs, PPs X pos ks vs trs ∧ PrOk C W trs (wpEs P R RM xs) ∧ ks.all (·.isSome) = true ∧ ks.length = vs.length
  | [], [], xs, h => by
    cases h
    exact ⟨[], pps_nil, pr_nil, rfl, rfl⟩
  | some k :: ks, v :: vs, xs, h => by
    simp only [elPairs, Option.bind_eq_bind, Option.bind_eq_some_iff, Option.some.injEq] at h
    obtain ⟨a, ha, b, hb, c, hc, rfl⟩ := h
    obtain ⟨trs, t1, t2, t3, t4⟩ := elPairs_ok hf hc
    obtain ⟨_, h1, _⟩ := hf _ _ ha
    obtain ⟨_, h2, _⟩ := hf _ _ hb
    exact ⟨_, pps_cons h1 h2 t1, pr_cons (mE mR mM a) (mE mR mM b) (mEs mR mM c) t2, by rw [List.all_cons, t3]; rfl, by rw [List.length_cons, List.length_cons, t4]⟩
  | none :: _, _ :: _, xs, h => by cases h
  | [], _ :: _, xs, h => by cases h
  | none :: _, [], xs, h => by cases h
  | some _ :: _, [], xs, h => by cases h
theorem elE_ok : ∀ (n : Nat) {G : EC} {C : Cn} {W : WX} {X : Cx} (x : XOk G C P R RM W X) (e : Expr) (ir : Ex), elE n G e = some ir → Good X C P R RM W e ir := by
  intro n
  induction n with
  | zero => intro G C W X x e ir h; simp only [elE] at h; cases h
  | succ n ih =>
    intro G C W X x e ir h
    have hf : ∀ e ir, elE n G e = some ir → Good X C P R RM W e ir := fun e ir h => ih x e ir h
    have sm : Same X X := ⟨rfl, rfl, rfl, rfl, rfl, rfl⟩
    replace h : elX (elE n) n G e = some ir := h
    unfold elX at h
    split at h
    · -- a name
      simp only [Option.bind_eq_bind, Option.bind_eq_some_iff, chk_some] at h
      obtain ⟨_, hb, h⟩ := h
      obtain ⟨b1, b2, b3⟩ := badN_ok hb
      split at h
      · rename_i hv
        simp only [Option.bind_eq_bind, Option.bind_eq_some_iff, Option.some.injEq] at h
        obtain ⟨i, hi, rfl⟩ := h
        exact .plain mR mM rfl (s_var (pe_var (by rw [x.N]; exact ixOf_ok hi) (EC.vis_ok x.scn hv) b1 b2)) fun _ => rfl
      · simp only [Option.bind_eq_bind, Option.bind_eq_some_iff, chk_some] at h
        obtain ⟨_, hg, h⟩ := h
        split at h
        · cases h
          rename_i hl
          obtain ⟨v, u, h1, h2, h3⟩ := x.gl _ _ hl
          exact .plain mR mM rfl (s_cst (pe_glob (EC.isG_ok x.scn hg) h1 h2 b1) h3) fun _ => rfl
        · cases h
    · -- a constant
      split at h <;> first | (cases h; skip) | skip
      · exact .plain mR mM rfl (s_cst pe_non fun _ => .non) fun _ => rfl
      · exact .plain mR mM rfl (s_cst pe_bl fun _ => .bl _) fun _ => rfl
      · exact .plain mR mM rfl (s_cst pe_int fun _ => .int _) fun _ => rfl
      · exact .plain mR mM rfl (s_cst pe_str fun _ => .str _) fun _ => rfl
    · -- a binary operator
      simp only [Option.bind_eq_bind, Option.bind_eq_some_iff, Option.some.injEq] at h
      obtain ⟨o, ho, a, ha, b, hb, rfl⟩ := h
      obtain ⟨_, h1, _⟩ := hf _ _ ha
      obtain ⟨_, h2, _⟩ := hf _ _ hb
      exact .plain mR mM rfl (s_bin (bop_rule mR mM x ho) h1 h2 (mE mR mM a) (mE mR mM b)) fun _ => rfl
    · -- not
      simp only [Option.bind_eq_bind, Option.bind_eq_some_iff, chk_some, Option.some.injEq] at h
      obtain ⟨_, h0, a, ha, rfl⟩ := h
      obtain ⟨_, h1, h2⟩ := hf _ _ ha
      exact ⟨rfl, s_no h1 (mE mR mM a), fun _ => s_noT (h2 h0) (mE mR mM a)⟩
    · -- minus
      simp only [Option.bind_eq_bind, Option.bind_eq_some_iff, Option.some.injEq] at h
      obtain ⟨a, ha, rfl⟩ := h
      obtain ⟨_, h1, h2⟩ := hf _ _ ha
      exact .plain mR mM rfl (s_neg h1 (mE mR mM a)) fun _ => rfl
    · -- and, or
      obtain ⟨h1, h2⟩ := elB_ok mR mM hf h
      exact ⟨rfl, h1, fun _ => h2.pt⟩
    · -- a comparison
      simp only [Option.bind_eq_bind, Option.bind_eq_some_iff, chk_some, Option.some.injEq, Bool.not_eq_true'] at h
      obtain ⟨_, h0, a, ha, b, hb, rfl⟩ := h
      obtain ⟨_, h1, _⟩ := hf _ _ ha
      obtain ⟨_, h2, _⟩ := hf _ _ hb
      exact ⟨rfl, s_cmp (cop_rule mR mM x _) h1 h2 (mE mR mM a) (mE mR mM b) h0, fun _ => s_cmpT (cop_rule mR mM x _) h1 h2 (mE mR mM a) (mE mR mM b) h0⟩
    · -- a chain
      simp only [Option.bind_eq_bind, Option.bind_eq_some_iff, chk_some, Option.some.injEq, Bool.not_eq_true'] at h
      obtain ⟨_, h0, a, ha, b, hb, c, hc, rfl⟩ := h
      obtain ⟨_, h1, _⟩ := hf _ _ ha
      obtain ⟨_, h2, _⟩ := hf _ _ hb
      obtain ⟨_, h3, _⟩ := hf _ _ hc
      exact ⟨rfl, s_chn (cop_rule mR mM x _) (cop_rule mR mM x _) h1 h2 h3 (mE mR mM a) (mE mR mM b) (mE mR mM c) h0, fun _ => s_chnT (cop_rule mR mM x _) (cop_rule mR mM x _) h1 h2 h3 (mE mR mM a) (mE mR mM b) (mE mR mM c) h0⟩
    · -- a if t else b
      simp only [Option.bind_eq_bind, Option.bind_eq_some_iff, chk_some, Option.some.injEq] at h
      obtain ⟨_, h0, z, hz, a, ha, b, hb, rfl⟩ := h
      obtain ⟨_, _, h1⟩ := hf _ _ hz
      obtain ⟨_, h2, _⟩ := hf _ _ ha
      obtain ⟨_, h3, _⟩ := hf _ _ hb
      exact ⟨rfl, s_ife (h1 h0) h2 h3 (mE mR mM z) (mE mR mM a) (mE mR mM b), fun z => by cases z⟩
    · -- a tuple
      simp only [Option.bind_eq_bind, Option.bind_eq_some_iff, Option.some.injEq] at h
      obtain ⟨xs, hxs, rfl⟩ := h
      obtain ⟨_, h1, _⟩ := elEs_ok mR mM hf hxs
      exact .plain mR mM rfl (s_tup h1 (mEs mR mM xs)) fun _ => rfl
    · -- a list
      simp only [Option.bind_eq_bind, Option.bind_eq_some_iff, Option.some.injEq] at h
      obtain ⟨xs, hxs, rfl⟩ := h
      obtain ⟨_, h1, _⟩ := elEs_ok mR mM hf hxs
      exact .plain mR mM rfl (s_lst h1 (mEs mR mM xs)) fun _ => rfl
    · -- {}
      cases h
      exact .plain mR mM rfl (s_dnew (C := C) (W := W)) fun _ => rfl
    · -- a display
      rename_i k ks vs dpos
      simp only [Option.bind_eq_bind, Option.bind_eq_some_iff, chk_some, decide_eq_true_eq, Option.some.injEq] at h
      obtain ⟨_, h15, xs, hxs, rfl⟩ := h
      obtain ⟨trs, t1, t2, t3, t4⟩ := elPairs_ok mR mM (pos := dpos) hf hxs
      cases xs with
      | nil =>
        cases vs with
        | nil => cases k <;> cases hxs
        | cons v vs =>
          cases k with
          | none => cases hxs
          | some k =>
            simp only [elPairs, Option.bind_eq_bind, Option.bind_eq_some_iff, Option.some.injEq, reduceCtorEq, and_false, exists_false] at hxs
      | cons e es => exact .plain mR mM rfl (s_disp (mEs mR mM (.cons e es)) t1 t2 t3 t4 (List.cons_ne_nil _ _) h15) fun _ => rfl
    · -- turned about
      simp only [Option.bind_eq_bind, Option.bind_eq_some_iff, Option.some.injEq] at h
      obtain ⟨a, ha, rfl⟩ := h
      obtain ⟨_, h1, _⟩ := hf _ _ ha
      exact .plain mR mM rfl (s_rvs x.K h1 (mE mR mM a)) fun _ => rfl
    · -- a slice with a step
      simp only [Option.bind_eq_bind, Option.bind_eq_some_iff, Option.some.injEq] at h
      obtain ⟨a, ha, l, hl, u, hu, t, ht, rfl⟩ := h
      obtain ⟨_, h1, _⟩ := hf _ _ ha
      exact .plain mR mM rfl (s_slc3 x.K h1 (elO_ok mR mM hf hl) (elO_ok mR mM hf hu) (elO_ok mR mM hf ht) (mE mR mM a) (mO mR mM l) (mO mR mM u) (mO mR mM t)) fun _ => rfl
    · -- a slice
      simp only [Option.bind_eq_bind, Option.bind_eq_some_iff, Option.some.injEq] at h
      obtain ⟨a, ha, l, hl, u, hu, rfl⟩ := h
      obtain ⟨_, h1, _⟩ := hf _ _ ha
      exact .plain mR mM rfl (s_slc x.K x.hu h1 (elO_ok mR mM hf hl) (elO_ok mR mM hf hu) (mE mR mM a) (mO mR mM l) (mO mR mM u)) fun _ => rfl
    · -- a subscript
      simp only [Option.bind_eq_bind, Option.bind_eq_some_iff, chk_some, Option.some.injEq] at h
      obtain ⟨_, h0, a, ha, b, hb, rfl⟩ := h
      obtain ⟨_, h1, _⟩ := hf _ _ ha
      obtain ⟨_, h2, _⟩ := hf _ _ hb
      exact .plain mR mM rfl (s_ix x.K x.hu h1 h2 (mE mR mM a) (mE mR mM b) (NoPlain h0)) fun _ => rfl
    · -- a field
      simp only [Option.bind_eq_bind, Option.bind_eq_some_iff, chk_some, Option.some.injEq] at h
      obtain ⟨_, h0, a, ha, i, hi, rfl⟩ := h
      obtain ⟨_, h1, _⟩ := hf _ _ ha
      obtain ⟨f1, f2⟩ := x.fld _ _ hi
      exact .plain mR mM rfl (s_fld x.K x.F f1 f2 h1 (mE mR mM a) h0) fun _ => rfl
    · -- a call of a name
      rename_i y p args pos
      split at h
      · rename_i a hsp
        obtain ⟨p2, pos2, rfl, rfl, g1, g2, g3, g4, n1⟩ := special1 hsp
        simp only [Option.bind_eq_bind, Option.bind_eq_some_iff, Option.some.injEq] at h
        obtain ⟨ia, ha, rfl⟩ := h
        obtain ⟨_, h1, _⟩ := hf _ _ ha
        exact .plain mR mM rfl (s_lr1 x.calm (EC.isG_ok x.scn g1) (x.bn _ g2) (EC.isG_ok x.scn g3) (x.bn _ g4) h1 (mE mR mM ia) n1) fun _ => rfl
      · rename_i a b hsp
        obtain ⟨p2, pos2, rfl, rfl, g1, g2, g3, g4, n1, n2⟩ := special2 hsp
        simp only [Option.bind_eq_bind, Option.bind_eq_some_iff, Option.some.injEq] at h
        obtain ⟨ia, ha, ib, hb, rfl⟩ := h
        obtain ⟨_, h1, _⟩ := hf _ _ ha
        obtain ⟨_, h2, _⟩ := hf _ _ hb
        exact .plain mR mM rfl (s_lr2 x.calm (EC.isG_ok x.scn g1) (x.bn _ g2) (EC.isG_ok x.scn g3) (x.bn _ g4) h1 h2 (mE mR mM ia) (mE mR mM ib) n1 n2) fun _ => rfl
      · rename_i a hsp
        obtain ⟨p2, pos2, rfl, rfl, g1, g2, g3, g4, n1⟩ := special3 hsp
        simp only [Option.bind_eq_bind, Option.bind_eq_some_iff, Option.some.injEq] at h
        obtain ⟨ia, ha, rfl⟩ := h
        obtain ⟨_, h1, _⟩ := hf _ _ ha
        exact .plain mR mM rfl (s_sset x.K x.calm (EC.isG_ok x.scn g1) (x.bn _ g2) (EC.isG_ok x.scn g3) (x.bn _ g4) h1 (mE mR mM ia) n1) fun _ => rfl
      · rename_i a hsp
        obtain ⟨p2, pos2, rfl, rfl, g1, g2, g3, g4, n1⟩ := special4 hsp
        simp only [Option.bind_eq_bind, Option.bind_eq_some_iff, Option.some.injEq] at h
        obtain ⟨ia, ha, rfl⟩ := h
        obtain ⟨_, h1, _⟩ := hf _ _ ha
        exact .plain mR mM rfl (s_lset x.K x.calm (EC.isG_ok x.scn g1) (x.bn _ g2) (EC.isG_ok x.scn g3) (x.bn _ g4) h1 (mE mR mM ia) n1) fun _ => rfl
      · rename_i a hsp
        obtain ⟨p2, pos2, rfl, rfl, g1, g2, g3, g4, n1⟩ := special5 hsp
        simp only [Option.bind_eq_bind, Option.bind_eq_some_iff, Option.some.injEq] at h
        obtain ⟨ia, ha, rfl⟩ := h
        obtain ⟨_, h1, _⟩ := hf _ _ ha
        exact .plain mR mM rfl (s_rvl x.K x.calm (EC.isG_ok x.scn g1) (x.bn _ g2) (EC.isG_ok x.scn g3) (x.bn _ g4) h1 (mE mR mM ia) n1) fun _ => rfl
      unfold elCall at h
      simp only [Option.bind_eq_bind, Option.bind_eq_some_iff, chk_some, Bool.and_eq_true] at h
      obtain ⟨_, ⟨hg, hb⟩, h⟩ := h
      obtain ⟨b1, b2, b3⟩ := badN_ok hb
      have hg := EC.isG_ok x.scn hg
      split at h
      · rename_i f hl
        simp only [Option.bind_eq_bind, Option.bind_eq_some_iff, Option.some.injEq] at h
        obtain ⟨xs, hxs, rfl⟩ := h
        obtain ⟨s1, h1, hnil⟩ := elEs_ok mR mM hf hxs
        obtain ⟨a, m1, m2, m3⟩ := x.gl _ _ hl
        cases args with
        | nil =>
          cases hnil rfl
          exact .plain mR mM rfl (s_call0 hg m1 m2 (m3 X W sm x.tk) b1) fun _ => rfl
        | cons e es => exact .plain mR mM rfl (s_call hg m1 m2 (m3 X W sm x.tk) (fun ds S Q Q' E E' hq hE z => mR _ _ _ _ _ _ _ hq hE z) h1 (mEs mR mM xs) s1 b1) fun _ => rfl
      · rename_i c hl
        simp only [Option.bind_eq_bind, Option.bind_eq_some_iff, Option.some.injEq] at h
        obtain ⟨xs, hxs, rfl⟩ := h
        obtain ⟨s1, h1, hnil⟩ := elEs_ok mR mM hf hxs
        obtain ⟨a, m1, m2, m3⟩ := x.gl _ _ hl
        cases args with
        | nil =>
          cases hnil rfl
          exact .plain mR mM rfl (s_call0 hg m1 m2 (m3 X W sm x.tk) b1) fun _ => rfl
        | cons e es => exact .plain mR mM rfl (s_call hg m1 m2 (m3 X W sm x.tk) (fun ds S Q Q' E E' hq hE ⟨f, e1, z⟩ => ⟨f, e1, fun p hp => mM _ _ _ _ _ _ _ (fun v S2 q => ⟨q.1, hq _ _ q.2⟩) hE (z p hp)⟩) h1 (mEs mR mM xs) s1 b1) fun _ => rfl
      · cases h
      · simp only [Option.bind_eq_bind, Option.bind_eq_some_iff, chk_some] at h
        obtain ⟨_, hbn, h⟩ := h
        have hm := x.bn _ hbn
        split at h
        · rename_i hy
          subst hy
          split at h
          · simp only [Option.bind_eq_bind, Option.bind_eq_some_iff, Option.some.injEq] at h
            obtain ⟨_, hlen, a, ha, tys, ht, rfl⟩ := h
            have hlen := of_decide_eq_true (chk_some.mp hlen)
            obtain ⟨s1, h1, _⟩ := hf _ _ ha
            obtain ⟨vs, t1, t2, t3⟩ := elTys_ok x ht
            exact .plain mR mM rfl (s_isiN x.K t1 (t3 ▸ hlen) hg hm h1 (mE mR mM a) t2 s1) fun _ => rfl
          · simp only [Option.bind_eq_bind, Option.bind_eq_some_iff, Option.some.injEq] at h
            obtain ⟨a, ha, ty, ht, rfl⟩ := h
            obtain ⟨s1, h1, _⟩ := hf _ _ ha
            obtain ⟨nn, t1, t2, t3⟩ := elTy_ok x ht
            exact .plain mR mM rfl (s_isi1 x.K t1 hg hm h1 (mE mR mM a) t2 s1 t3) fun _ => rfl
          · cases h
        · simp only [Option.bind_eq_bind, Option.bind_eq_some_iff, chk_some, Option.some.injEq] at h
          obtain ⟨b, hb', _, hne, xs, hxs, rfl⟩ := h
          obtain ⟨s1, h1, hnil⟩ := elEs_ok mR mM hf hxs
          cases args with
          | nil => cases hne
          | cons e es =>
            have goB : ∀ id : String, bltVal b = .builtin id → bootBuiltins y = some (.builtin id) → Good X C P R RM W (.Call (.Name y p) (e :: es) [] pos) (.blt b xs) := fun id e1 e2 =>
              .plain mR mM rfl (s_bltF x.K x.calm x.hu e1 hg hm e2 h1 (mEs mR mM xs) s1 b3 b1) fun _ => rfl
            have goT : ∀ id : String, bltVal b = .type id → bootBuiltins y = some (.type id) → Good X C P R RM W (.Call (.Name y p) (e :: es) [] pos) (.blt b xs) := fun id e1 e2 =>
              .plain mR mM rfl (s_bltT x.K x.calm x.hu e1 hg hm e2 h1 (mEs mR mM xs) s1 b3 b1) fun _ => rfl
            simp only [bltNs, List.lookup_cons] at hb'
            repeat (split at hb' <;> first | (rename_i q; cases hb'; have q := eq_of_beq q; subst q; first | exact goB _ rfl (by decide +kernel) | exact goT _ rfl (by decide +kernel)) | skip)
            cases hb'
    · -- a method
      simp only [Option.bind_eq_bind, Option.bind_eq_some_iff, chk_some, Bool.and_eq_true, decide_eq_true_eq] at h
      obtain ⟨_, ⟨c1, c2, c3⟩, a, ha, xs, hxs, h⟩ := h
      obtain ⟨_, h1, _⟩ := hf _ _ ha
      obtain ⟨s1, h2, hnil⟩ := elEs_ok mR mM hf hxs
      have hnil' : _ = [] → wpEs P R RM xs = fun _ S Q _ => Q [] S := fun z => by rw [hnil z]; rfl
      split at h
      · cases h
        rename_i i hi
        exact .plain mR mM rfl (s_meth x.K x.F (x.mnm _ _ hi) mR (x.mth i X W sm x.tk) h1 (mE mR mM a) h2 (mEs mR mM xs) hnil' c1 s1 c2 c3) fun _ => rfl
      · simp only [Option.bind_eq_bind, Option.bind_eq_some_iff, Option.some.injEq] at h
        obtain ⟨b, hb, rfl⟩ := h
        have e1 := bmtNs_ok hb
        subst e1
        exact .plain mR mM rfl (s_bmt x.K x.hu h1 (mE mR mM a) h2 (mEs mR mM xs) hnil' c1 s1 c2 c3) fun _ => rfl
    · -- a comprehension
      split at h
      · rename_i hd
        obtain ⟨d, own, t, c, v, rfl, i1, i2, ok, g1, g2, g3, hin⟩ := comp_partsD mR mM x hf (fun G' W' X' x' e ir h => ih x' e ir h) hd h
        exact .plain mR mM rfl ((pe_lock (pe_lc x.calm x.nd i1 ok g1 g2 g3 i2)).mono (s_compD (mE mR mM d) (mE mR mM c) (mE mR mM v) hin)) fun _ => rfl
      obtain ⟨it, own, t, c, v, rfl, i1, i2, ok, g1, g2, g3, hin⟩ := comp_parts mR mM x hf (fun G' W' X' x' e ir h => ih x' e ir h) h
      exact .plain mR mM rfl ((pe_lc x.calm x.nd i1 ok g1 g2 g3 i2).mono (s_comp x.calm x.nd i1 (mI mR mM it) ok g1 g2 g3 (mE mR mM c) (mE mR mM v) hin)) fun _ => rfl
    · -- an f-string
      simp only [Option.bind_eq_bind, Option.bind_eq_some_iff, Option.some.injEq] at h
      obtain ⟨xs, hxs, rfl⟩ := h
      exact .plain mR mM rfl (s_join mR mM (elFs_ok mR mM (fun e x hx => (hf _ _ hx).2.1) hxs)) fun _ => rfl
    · cases h
end
end SW
/-! SW, part Ma: except suites from the text. -/
namespace SW
open PySem PySem.Spec PyProof.Rows L2
/-! ### the way from the text -/
def elQc (G : EC) : Expr → Option (Option Nat)
  | .Name x _ => do
    chk (G.isG x && !badN x)
    match G.gl.lookup x with
    | some (.exc c) => some (some c)
    | some _ => none
    | none => do
      chk (G.bn.contains x && x == ("ValueError" : Str))
      some none
  | _ => none
def elQcs (G : EC) : List Expr → Option (List (Option Nat))
  | [] => some []
  | e :: es => do
    let a ← elQc G e
    let b ← elQcs G es
    some (a :: b)
def elQB (f : Expr → Option Qx) (op : BoolOp) : List Expr → Option Qx
  | [] => none
  | [a] => f a
  | a :: b :: rest => do
    let x ← f a
    let y ← elQB f op (b :: rest)
    match op with
    | .And => some (.an x y)
    | .Or => some (.or x y)
def bopQ : Operator → Option Bop
  | .Add => some .add
  | .Sub => some .sub
  | .Mult => some .mul
  | _ => none
/-- en: the exception's name and slot -/
def elQX (r : Expr → Option Qx) (G : EC) (en : Option (Str × Nat)) : Expr → Option Qx
  | .Name x _ => do
    chk (!badN x && G.vis x)
    let i ← ixOf x G.N
    some (.var i)
  | .Constant c _ _ => match c with
    | .none => some (.cst .non)
    | .bool b => some (.cst (.bl b))
    | .int i => some (.cst (.int i))
    | .str s => some (.cst (.str s))
    | _ => none
  | .UnaryOp .Not a _ => do
    let x ← r a
    some (.no x)
  | .BoolOp op es _ => elQB r op es
  | .BinOp a op b _ => do
    let o ← bopQ op
    let x ← r a
    let y ← r b
    some (.bin o x y)
  | .Call (.Name f _) [.Name y _, t] [] _ => do
    chk (f == ("isinstance" : Str) && (G.isG f && (G.bn.contains f && (!badN y && G.vis y))))
    let (e, _) ← en
    chk (y == e)
    match t with
    | .Tuple (t1 :: ts) _ _ => do
      chk (decide ((t1 :: ts).length ≤ sizeLine))
      let c ← elQc G t1
      let cs ← elQcs G ts
      some (.isx (c :: cs))
    | t => do
      let c ← elQc G t
      some (.isx [c])
  | .Call (.Name f _) [a] [] _ => do
    chk (f == ("int" : Str) && (G.isG f && G.bn.contains f))
    let x ← r a
    some (.int x)
  | _ => none
def elQ : Nat → EC → Option (Str × Nat) → Expr → Option Qx
  | 0, _, _, _ => none
  | n + 1, G, en, e => elQX (elQ n G en) G en e
def elQs (n : Nat) (G : EC) (en : Option (Str × Nat)) : List Expr → Option (List Qx)
  | [] => some []
  | e :: es => do
    let a ← elQ n G en e
    let b ← elQs n G en es
    some (a :: b)
def enNot (en : Option (Str × Nat)) (i : Nat) : Bool := match en with
  | none => true
  | some p => p.2 != i
def elQm (n : Nat) (G : EC) (en : Option (Str × Nat)) : Stmt → Option Qm
  | .Assign [.Name y _] (.List es _) _ => do
    chk (G.sto y)
    let i ← ixOf y G.N
    chk (enNot en i)
    let xs ← elQs n G en es
    some (.lst i xs)
  | .Assign [.Name y _] e _ => do
    chk (G.sto y && noComp0 e)
    let i ← ixOf y G.N
    chk (enNot en i)
    let x ← elQ n G en e
    some (.asg i x)
  | .Expr (.Call (.Attribute (.Name y _) m apos) [e] [] pos) _ => do
    chk (m == ("append" : Str) && (!badN y && (G.vis y && (apos.endLine == pos.line))))
    let i ← ixOf y G.N
    let x ← elQ n G en e
    some (.app i x)
  | _ => none
where noComp0 : Expr → Bool
  | .ListComp _ _ _ _ => false
  | .SetComp _ _ _ _ => false
  | .DictComp _ _ _ _ _ => false
  | .Tuple _ _ _ => false
  | _ => true
def elQms (n : Nat) (G : EC) (en : Option (Str × Nat)) : List Stmt → Option (List Qm)
  | [] => some []
  | s :: ss => do
    let a ← elQm n G en s
    let b ← elQms n G en ss
    some (a :: b)
/-! ### it is right -/
theorem Rl.unset {C : Cn} {σ : St2} {H : Hp} {env : Env} {S : Store} (r : Rl C σ H env S) (i : Nat) : Rl C (σ.set i none) H (env.set i none) S := by
  refine ⟨by rw [List.length_set, List.length_set]; exact r.1, fun j e hj => ?_, r.2.2⟩
  by_cases hij : i = j
  · subst hij
    rw [List.getElem?_set] at hj
    split at hj
    · split at hj <;> cases hj
    · exact absurd rfl ‹_›
  · rw [List.getElem?_set_ne hij] at hj ⊢
    exact r.2.1 j e hj
theorem swapsWith_no0 {e : Expr} {t : Option Expr} {l : Nat} {env : PySem.Env} (h : elQm.noComp0 e = true) : swapsWith e t l env = pure false := by
  cases e <;> first | rfl | cases h
theorem sole_no0 {tg e : Expr} {l : Nat} {env : PySem.Env} (h : elQm.noComp0 e = true) : swapsWithSole [tg] e l env = pure false := swapsWith_no0 (t := some tg) h
theorem swappedStores_no0 {tg e : Expr} {env : PySem.Env} (h : elQm.noComp0 e = true) : swappedStores [tg] e env = pure none := by
  cases e <;> first | (cases tg <;> rfl) | cases h
theorem kdM_lst' {S : Store} {a : Addr} {xs : List D} (h : S a = some (.lst xs)) : kdM S (.ref a) = some .lst := by
  simp only [kdM, h]
def LQ (a : Addr) (en : Option (Str × Nat)) (w : Env → (D → Prop) → Prop) : WE := fun env S Q _ => (∀ e i, en = some (e, i) → env[i]? = some (some (.ref a))) ∧ w env fun d => Q d S
def LQs (a : Addr) (en : Option (Str × Nat)) (w : Env → (List D → Prop) → Prop) : WA := fun env S Q _ => (∀ e i, en = some (e, i) → env[i]? = some (some (.ref a))) ∧ w env fun d => Q d S
theorem mLQ {P : Prg} {c' : Nat} {a : Addr} {en : Option (Str × Nat)} (q : Qx) : MonoE (LQ a en (wpQx P c' q)) := fun _ _ _ _ _ _ hq _ h => ⟨h.1, wpQx_mono q (fun d z => hq _ _ z) h.2⟩
theorem mLQs {P : Prg} {c' : Nat} {a : Addr} {en : Option (Str × Nat)} (q : List Qx) : MonoA (LQs a en (wpQxs P c' q)) := fun _ _ _ _ _ _ hq _ h => ⟨h.1, wpQxs_mono q (fun d z => hq _ _ z) h.2⟩
/-- isinstance(e, (c1, c2, ..)), e the exception that the suite holds -/
def rIsET (K : PySem.W.Frag) (D a : Addr) : List V → Hp → VK → Prop := fun xs H Q => ∃ (tp : Addr) (cs : List V) (us : List Value) (b : Bool), xs = [.ref a, .ref tp] ∧ H tp = some (.tup cs) ∧ Paired ClsV cs us ∧ PySem.W.kitAny K (.ref D) us = some b ∧ Q (.bl b) H
theorem call_isET {X : Cx} {a D : Addr} {oe : Obj} {pn : List (Addr × Obj)} (C : ExcC X.K D) (hz : Zc (.ref D) none oe) (hf : ∃ vs, oe.data = .fields vs) : CallR (X.suite a ((a, oe) :: pn)) (.builtin "isinstance") (rIsET X.K D a) := by
  intro pins s σ H xs us Q I r h
  obtain ⟨tp, cs, ws, b, rfl, hT, k, e, q⟩ := h
  cases r with
  | cons rx rr =>
    cases rr with
    | cons rt rr =>
      cases rr
      cases rx
      cases rt
      obtain ⟨hget, _⟩ := I.pin (a, oe) (List.mem_append.mpr (.inl List.mem_cons_self))
      obtain ⟨vs, hv⟩ := hf
      have J : PySem.W.InstAt s.heap a oe D none := by
        obtain ⟨oc, od, oda, osl⟩ := oe
        obtain ⟨h1, h2⟩ := hz
        dsimp only at h1 h2 hv
        subst h1 h2 hv
        exact ⟨hget, rfl, rfl, trivial⟩
      obtain ⟨_, its, rv, o, h1, h2, n, h3⟩ := (show ObjOk X.prog X.w H s.heap tp (.tup cs) from I.hok tp _ hT)
      have e3 := ClsV.all k rv
      subst e3
      obtain ⟨oc, od, dt, sl⟩ := o
      simp only at h2 h3
      subst h2 h3
      exact PySem.W.kia_tup (PySem.W.handS_kitx_exc C.hg C.hk C.hs C.hd C.ha C.hn C.ht C.hm) I.kIn J h1 e (fun z => nomatch z) fun tk => ⟨.bl b, H, I.kept (t' := tk) fun _ _ z => z, rfl, q⟩
def clsP (C : Cn) : ∀ cs : List (Option Nat), Paired ClsV (cs.map (cvV C)) (cs.map (cvU C))
  | [] => .nil
  | none :: cs => .cons (.ty _) (clsP C cs)
  | some c :: cs => .cons (.own _) (clsP C cs)
section
variable {G : EC} {C : Cn} {P : Prg} {R RM : Rec} {W : WX} {X : Cx} (x : XOk G C P R RM W X) {a : Addr} {oe : Obj} {pn : List (Addr × Obj)} {c' : Nat} {en : Option (Str × Nat)}
include x
theorem anyI_ok : ∀ {cs : List (Option Nat)} {b : Bool}, anyI P c' cs = some b → PySem.W.kitAny C.K (.ref (C.ca c')) (cs.map (cvU C)) = some b
  | [], b, h => by cases h; rfl
  | c :: cs, b, h => by
    unfold anyI at h
    cases e : P.isx c' c with
    | none => rw [e] at h; cases h
    | some r =>
      rw [e] at h
      have k := (x.isx _ _ _ e).2
      show PySem.W.kitAny C.K (.ref (C.ca c')) (cvU C c :: cs.map (cvU C)) = some b
      unfold PySem.W.kitAny
      rw [k]
      cases r with
      | true => exact h
      | false => exact anyI_ok h
theorem elQc_ok {e : Expr} {oc : Option Nat} (h : elQc G e = some oc) : PE (X.suite a ((a, oe) :: pn)) e (tC (cvV C oc)) ∧ notStar e = true := by
  cases e with
  | Name y p =>
    simp only [elQc, Option.bind_eq_bind, Option.bind_eq_some_iff, chk_some, Bool.and_eq_true] at h
    obtain ⟨_, ⟨h1, h3⟩, h⟩ := h
    have hg : Gl X y := EC.isG_ok x.scn h1
    obtain ⟨b1, b2, b3⟩ := badN_ok h3
    split at h
    · cases h
      rename_i hl
      obtain ⟨m1, _⟩ := x.gl _ _ hl
      exact ⟨pe_glob (X := X.suite a ((a, oe) :: pn)) hg m1 rfl b1, rfl⟩
    · cases h
    · simp only [Option.bind_eq_some_iff, chk_some, Bool.and_eq_true, Option.some.injEq] at h
      obtain ⟨_, ⟨h4, h5⟩, rfl⟩ := h
      have e := eq_of_beq h5
      subst e
      exact ⟨pe_bltn (X := X.suite a ((a, oe) :: pn)) hg (x.bn _ h4) (by decide +kernel) rfl b3 b1, rfl⟩
  | _ => cases h
theorem elQcs_ok : ∀ {es : List Expr} {cs : List (Option Nat)}, elQcs G es = some cs → PTys (X.suite a ((a, oe) :: pn)) es (cs.map (cvV C)) ∧ es.length = cs.length
  | [], cs, h => by
    cases h
    exact ⟨pa_nil.mono fun _ _ _ q => q, rfl⟩
  | e :: es, cs, h => by
    simp only [elQcs, Option.bind_eq_bind, Option.bind_eq_some_iff, Option.some.injEq] at h
    obtain ⟨c, hc, b, hb, rfl⟩ := h
    obtain ⟨h2, h3⟩ := elQc_ok x (a := a) (oe := oe) (pn := pn) hc
    obtain ⟨h5, h6⟩ := elQcs_ok hb
    exact ⟨(pa_cons h2 h5 (star1 h3)).mono fun _ _ _ q => q, by rw [List.length_cons, List.length_cons, h6]⟩
/-- what is shown of an expression of a suite -/
def GoodQ (X : Cx) (C : Cn) (P : Prg) (a : Addr) (oe : Obj) (pn : List (Addr × Obj)) (c' : Nat) (en : Option (Str × Nat)) (e : Expr) (q : Qx) : Prop :=
  notStar e = true ∧ PE (X.suite a ((a, oe) :: pn)) e (LE C noW (LQ a en (wpQx P c' q)))
theorem q_bin {op : Operator} {o : Bop} (h : bopQ op = some o) : OpR (X.suite a ((a, oe) :: pn)) (binaryOp op) (R2D C (wpBin o)) := by
  have hK : (X.suite a ((a, oe) :: pn)).K = C.K := x.K
  cases op <;> cases h
  · exact opr_add hK
  · exact opr_sub hK
  · exact opr_mul hK
omit x in
theorem wpBinI_to {op : Operator} {o : Bop} (h : bopQ op = some o) {d1 d2 : D} {S : Store} {Q : PQ} (k : wpBinI o d1 d2 fun d => Q d S) : wpBin o d1 d2 S Q := by
  unfold wpBinI at k
  split at k
  · exact k
  · exact k
  · exact ⟨.inl k.1, k.2⟩
  · exact k.elim
omit x in
theorem elQB_ok {f : Expr → Option Qx} (hf : ∀ e q, f e = some q → GoodQ X C P a oe pn c' en e q) {op : BoolOp} {pos : Pos} : ∀ {es : List Expr} {q : Qx}, elQB f op es = some q →
    PE (X.suite a ((a, oe) :: pn)) (.BoolOp op es pos) (LE C noW (LQ a en (wpQx P c' q)))
  | [], q, h => by cases h
  | [e], q, h => pe_one (hf e q h).2
  | e :: e2 :: rest, q, h => by
    simp only [elQB, Option.bind_eq_bind, Option.bind_eq_some_iff] at h
    obtain ⟨q1, h1, q2, h2, h⟩ := h
    have g1 := (hf e q1 h1).2
    have g2 := elQB_ok hf (pos := pos) (show elQB f op (e2 :: rest) = some q2 from h2)
    cases op with
    | And =>
      cases h
      refine (s_an g1 g2 (mLQ q1) (mLQ q2)).mono fun σ H Q ⟨env, S, r, i, k⟩ => ⟨env, S, r, i, wpQx_mono q1 (fun d ⟨c, e, z⟩ => ⟨c, e, ?_⟩) k⟩
      cases c with
      | true => exact ⟨i, z⟩
      | false => exact z
    | Or =>
      cases h
      refine (s_or g1 g2 (mLQ q1) (mLQ q2)).mono fun σ H Q ⟨env, S, r, i, k⟩ => ⟨env, S, r, i, wpQx_mono q1 (fun d ⟨c, e, z⟩ => ⟨c, e, ?_⟩) k⟩
      cases c with
      | true => exact z
      | false => exact ⟨i, z⟩
theorem elQ_ok (hz : Zc (.ref (C.ca c')) none oe) (hf : ∃ vs, oe.data = .fields vs) (hen : ∀ e i, en = some (e, i) → ixOf e G.N = some i) : ∀ (n : Nat) (e : Expr) (q : Qx), elQ n G en e = some q → GoodQ X C P a oe pn c' en e q := by
  intro n
  induction n with
  | zero => intro e q h; simp only [elQ] at h; cases h
  | succ n ih =>
    intro e q h
    replace h : elQX (elQ n G en) G en e = some q := h
    unfold elQX at h
    split at h
    · -- a name
      simp only [Option.bind_eq_bind, Option.bind_eq_some_iff, chk_some, Option.some.injEq, Bool.and_eq_true] at h
      obtain ⟨_, ⟨hb, hv⟩, i, hi, rfl⟩ := h
      obtain ⟨b1, b2, b3⟩ := badN_ok hb
      refine ⟨rfl, (s_var (W := noW) (pe_var (X := X.suite a ((a, oe) :: pn)) (show X.N[i]? = some _ by rw [x.N]; exact ixOf_ok hi) (EC.vis_ok (X := X) x.scn hv) b1 b2)).mono fun σ H Q ⟨env, S, r, _, k⟩ => ⟨env, S, r, k⟩⟩
    · -- a constant
      split at h <;> first | (cases h; skip) | skip
      · exact ⟨rfl, (s_cst (W := noW) pe_non fun _ => .non).mono fun σ H Q ⟨env, S, r, _, k⟩ => ⟨env, S, r, k⟩⟩
      · exact ⟨rfl, (s_cst (W := noW) pe_bl fun _ => .bl _).mono fun σ H Q ⟨env, S, r, _, k⟩ => ⟨env, S, r, k⟩⟩
      · exact ⟨rfl, (s_cst (W := noW) pe_int fun _ => .int _).mono fun σ H Q ⟨env, S, r, _, k⟩ => ⟨env, S, r, k⟩⟩
      · exact ⟨rfl, (s_cst (W := noW) pe_str fun _ => .str _).mono fun σ H Q ⟨env, S, r, _, k⟩ => ⟨env, S, r, k⟩⟩
    · -- not
      simp only [Option.bind_eq_bind, Option.bind_eq_some_iff, Option.some.injEq] at h
      obtain ⟨q1, h1, rfl⟩ := h
      exact ⟨rfl, (s_no (ih _ _ h1).2 (mLQ q1)).mono fun σ H Q ⟨env, S, r, i, k⟩ => ⟨env, S, r, i, k⟩⟩
    · exact ⟨rfl, elQB_ok ih h⟩
    · simp only [Option.bind_eq_bind, Option.bind_eq_some_iff, Option.some.injEq] at h
      obtain ⟨o, ho, q1, h1, q2, h2, rfl⟩ := h
      exact ⟨rfl, (s_bin (q_bin x ho) (ih _ _ h1).2 (ih _ _ h2).2 (mLQ q1) (mLQ q2)).mono fun σ H Q ⟨env, S, r, i, k⟩ => ⟨env, S, r, i, wpQx_mono q1 (fun d z => ⟨i, wpQx_mono q2 (fun d z => wpBinI_to ho z) z⟩) k⟩⟩
    · -- isinstance
      rename_i f p1 y p2 t pos
      simp only [Option.bind_eq_bind, Option.bind_eq_some_iff, chk_some, Bool.and_eq_true] at h
      obtain ⟨_, ⟨hfn, hg, hbn, hb, hv⟩, ⟨e0, i0⟩, he0, _, hy, h⟩ := h
      have e1 := eq_of_beq hfn
      subst e1
      have e2 := eq_of_beq hy
      subst e2
      obtain ⟨b1, b2, b3⟩ := badN_ok hb
      have hi := hen _ _ he0
      have pv : PE (X.suite a ((a, oe) :: pn)) (.Name y p2) (tVar i0) := pe_var (X := X.suite a ((a, oe) :: pn)) (show X.N[i0]? = some _ by rw [x.N]; exact ixOf_ok hi) (EC.vis_ok (X := X) x.scn hv) b1 b2
      have gg : Gl (X.suite a ((a, oe) :: pn)) "isinstance" := EC.isG_ok (X := X) x.scn hg
      have mm : (X.suite a ((a, oe) :: pn)).mg "isinstance" = none := x.bn _ hbn
      have slot : ∀ {σ : St2} {H : Hp} {env : Env} {S : Store}, Rl C σ H env S → (∀ e i, en = some (e, i) → env[i]? = some (some (.ref a))) → σ[i0]? = some (some (.ref a)) := fun r iv => by
        obtain ⟨v, ev, rv⟩ := r.2.1 i0 _ (iv _ _ he0)
        cases rv
        exact ev
      have exc : ∀ {c : Option Nat} {cs : List (Option Nat)} {b : Bool}, anyI P c' (c :: cs) = some b → ExcC X.K (C.ca c') := fun {c cs b} h => by
        rw [x.K]
        unfold anyI at h
        cases e : P.isx c' c with
        | none => rw [e] at h; cases h
        | some r => exact (x.isx _ _ _ e).1
      split at h
      · rename_i t1 ts kk tpos
        simp only [Option.bind_eq_bind, Option.bind_eq_some_iff, chk_some, decide_eq_true_eq, Option.some.injEq] at h
        obtain ⟨_, hl, c, hc, cs, hcs, rfl⟩ := h
        obtain ⟨hp, hlen⟩ := elQcs_ok x (a := a) (oe := oe) (pn := pn) (show elQcs G (t1 :: ts) = some (c :: cs) by simp only [elQcs, hc, hcs]; rfl)
        refine ⟨rfl, ⟨fun pins s σ H Q I ⟨env, S, r, iv, b, hb, k⟩ => (pe_callB (X := X.suite a ((a, oe) :: pn)) (pos := pos) (p := p1) (call_isET (X := X) (pn := pn) (a := a) (exc hb) hz hf) gg mm (by decide +kernel) (pa_cons pv (pa_cons (pe_tup (x1 := kk) (pos := tpos) hp) pa_nil rfl) rfl) (by decide) (by decide) rfl rfl).run pins s σ H Q I ⟨_, slot r iv, ?_⟩⟩⟩
        refine ⟨by rw [List.length_map, ← hlen]; exact hl, fun t ht' => ?_⟩
        have x2 : Ext C.K H (L2.upd H t (.tup ((c :: cs).map (cvV C)))) := Ext.new ht'
        have ok2 := r.2.2.new0 (o := .tup ((c :: cs).map (cvV C))) ht'
        exact ⟨t, _, _, b, rfl, upd_same, clsP C (c :: cs), x.K ▸ anyI_ok x hb, k.ext x2 |>.at ok2 (.bl b)⟩
      · simp only [Option.bind_eq_bind, Option.bind_eq_some_iff, Option.some.injEq] at h
        obtain ⟨oc, hc, rfl⟩ := h
        obtain ⟨hp, hst⟩ := elQc_ok x (a := a) (oe := oe) (pn := pn) hc
        refine ⟨rfl, ⟨fun pins s σ H Q I ⟨env, S, r, iv, b, hb, k⟩ => (pe_callB (X := X.suite a ((a, oe) :: pn)) (pos := pos) (p := p1) (call_isE (X := X) (pn := pn) (a := a) (exc hb) hz hf) gg mm (by decide +kernel) (pa_cons pv (pa_cons hp pa_nil (star1 hst)) rfl) (by decide) (by decide) rfl (starAll (by rw [List.all_cons, hst]; rfl))).run pins s σ H Q I ⟨_, slot r iv, ?_⟩⟩⟩
        refine ⟨cvV C oc, cvU C oc, b, rfl, fun u hu => ?_, ?_, k.at r.2.2 (.bl b)⟩
        · cases oc with
          | none => exact hu
          | some c => exact hu
        · rw [show (X.suite a ((a, oe) :: pn)).K = C.K from x.K]
          have z := anyI_ok x hb
          unfold anyI at hb
          cases e : P.isx c' oc with
          | none => rw [e] at hb; cases hb
          | some r =>
            rw [e] at hb
            have q := (x.isx _ _ _ e).2
            cases r with
            | true => cases hb; exact q
            | false => cases hb; exact q
    · -- int
      rename_i f p1 ee pos
      simp only [Option.bind_eq_bind, Option.bind_eq_some_iff, chk_some, Bool.and_eq_true, Option.some.injEq] at h
      obtain ⟨_, ⟨hfn, hg, hbn⟩, q1, h1, rfl⟩ := h
      have e1 := eq_of_beq hfn
      subst e1
      obtain ⟨g1, g2⟩ := ih _ _ h1
      have gg : Gl (X.suite a ((a, oe) :: pn)) "int" := EC.isG_ok (X := X) x.scn hg
      have mm : (X.suite a ((a, oe) :: pn)).mg "int" = none := x.bn _ hbn
      refine ⟨rfl, (pe_callTy (X := X.suite a ((a, oe) :: pn)) (pos := pos) (p := p1) call_int1 gg mm (by decide +kernel) (pa_cons g2 pa_nil (star1 g1)) (by decide) (by decide) (star1 g1) rfl).mono fun σ H Q ⟨env, S, r, iv, k⟩ => ?_⟩
      have k : wpQx P c' q1 env fun x => ∃ c, x = .bl c ∧ QV C H Q (.int (if c = true then 1 else 0)) S := k
      refine LE.use (k := fun x S1 => ∃ c, x = .bl c ∧ QV C H Q (.int (if c = true then 1 else 0)) S1) (E := XW C noW σ H) (mLQ q1) r ⟨iv, k⟩ (fun _ _ z => z) fun d S' v H' x' r' rv ⟨c, e, z⟩ => ?_
      subst e
      cases rv
      exact .inr ⟨c, rfl, (QV.ext x' _ _ z).at r'.2.2 (.int _)⟩
    · cases h
theorem elQs_ok (hz : Zc (.ref (C.ca c')) none oe) (hf : ∃ vs, oe.data = .fields vs) (hen : ∀ e i, en = some (e, i) → ixOf e G.N = some i) {n : Nat} : ∀ {es : List Expr} {qs : List Qx}, elQs n G en es = some qs → PA (X.suite a ((a, oe) :: pn)) es (LA C noW (LQs a en (wpQxs P c' qs)))
  | [], qs, h => by
    cases h
    exact (s_nil (W := noW)).mono fun σ H Q ⟨env, S, r, _, k⟩ => ⟨env, S, r, k⟩
  | e :: es, qs, h => by
    simp only [elQs, Option.bind_eq_bind, Option.bind_eq_some_iff, Option.some.injEq] at h
    obtain ⟨q, hq, qs, hqs, rfl⟩ := h
    obtain ⟨g1, g2⟩ := elQ_ok x (pn := pn) hz hf hen n e q hq
    exact (s_cons g2 (elQs_ok hz hf hen hqs) (mLQ q) (mLQs qs) (star1 g1)).mono fun σ H Q ⟨env, S, r, i, k⟩ => ⟨env, S, r, i, wpQx_mono q (fun d z => ⟨i, z⟩) k⟩
/-- a suite's statements: the exception's slot stays -/
def LM (a : Addr) (en : Option (Str × Nat)) (w : Env → Store → (Env → Store → Prop) → Prop) : WS := fun env S K => (∀ e i, en = some (e, i) → env[i]? = some (some (.ref a))) ∧ w env S fun e2 S2 => (∀ e i, en = some (e, i) → e2[i]? = some (some (.ref a))) → K.nx e2 S2
omit x in
theorem LM.mono {w : Env → Store → (Env → Store → Prop) → Prop} (m : ∀ {env S} {K K' : Env → Store → Prop}, (∀ e s, K e s → K' e s) → w env S K → w env S K') : MonoS (LM a en w) := fun _ _ _ _ hk h => ⟨h.1, m (fun _ _ z i => hk.nx _ _ (z i)) h.2⟩
omit x in
theorem enSet {i : Nat} {d : D} {env : Env} (h : enNot en i = true) (iv : ∀ e i, en = some (e, i) → env[i]? = some (some (.ref a))) : ∀ e j, en = some (e, j) → (env.set i (some d))[j]? = some (some (.ref a)) := fun e j z => by
  subst z
  have h : (j != i) = true := h
  have hne : i ≠ j := fun q => by rw [q] at h; exact absurd h (by simp)
  rw [List.getElem?_set_ne hne]
  exact iv e j rfl
theorem elQm_ok (hz : Zc (.ref (C.ca c')) none oe) (hf : ∃ vs, oe.data = .fields vs) (hen : ∀ e i, en = some (e, i) → ixOf e G.N = some i) {n : Nat} {s : Stmt} {q : Qm} (h : elQm n G en s = some q) : PS (X.suite a ((a, oe) :: pn)) s (LS C noW (LM a en (wpQm P c' q))) := by
  have nm : ∀ {y : Str} {p : Pos} {i : Nat}, G.sto y = true → ixOf y G.N = some i → PG (X.suite a ((a, oe) :: pn)) (.Name y p) (LG C (.nm i)) := fun {y p i} h1 hi => by
    obtain ⟨h2, h3⟩ := EC.sto_ok (X := X) x.scn x.fnc h1
    exact g_name (pg_name (X := X.suite a ((a, oe) :: pn)) x.nd (show X.N[i]? = some y by rw [x.N]; exact ixOf_ok hi) h2 h3)
  unfold elQm at h
  split at h
  · simp only [Option.bind_eq_bind, Option.bind_eq_some_iff, chk_some, Option.some.injEq] at h
    obtain ⟨_, h1, i, hi, _, hn, qs, hq, rfl⟩ := h
    refine (t_asg (s_lst (elQs_ok x hz hf hen hq) (mLQs qs)) (fun env S Q Q' E E' hq _ h => ⟨h.1, wpQxs_mono qs (fun ds z => ⟨z.1, fun p hp => hq _ _ (z.2 p hp)⟩) h.2⟩) (nm h1 hi) rfl rfl rfl).mono fun D σ H ⟨env, S, r, iv, k⟩ => ⟨env, S, r, iv, ?_⟩
    exact wpQxs_mono qs (fun ds z => ⟨z.1, fun p hp => ⟨_, rfl, z.2 p hp (enSet hn iv)⟩⟩) k
  · simp only [Option.bind_eq_bind, Option.bind_eq_some_iff, chk_some, Option.some.injEq, Bool.and_eq_true] at h
    obtain ⟨_, ⟨h1, h0⟩, i, hi, _, hn, q1, hq, rfl⟩ := h
    obtain ⟨g1, g2⟩ := elQ_ok x (pn := pn) hz hf hen n _ q1 hq
    refine (t_asg g2 (mLQ q1) (nm h1 hi) (sole_no0 h0) (swappedStores_no0 h0) rfl).mono fun D σ H ⟨env, S, r, iv, k⟩ => ⟨env, S, r, iv, ?_⟩
    exact wpQx_mono q1 (fun d z => ⟨_, rfl, z (enSet hn iv)⟩) k
  · rename_i y p1 m apos e1 pos p2
    simp only [Option.bind_eq_bind, Option.bind_eq_some_iff, chk_some, Option.some.injEq, Bool.and_eq_true] at h
    obtain ⟨_, ⟨hm, hb, hv, hl⟩, i, hi, q1, hq, rfl⟩ := h
    have e2 := eq_of_beq hm
    subst e2
    obtain ⟨b1, b2, b3⟩ := badN_ok hb
    obtain ⟨g1, g2⟩ := elQ_ok x (pn := pn) hz hf hen n _ q1 hq
    have pv : PE (X.suite a ((a, oe) :: pn)) (.Name y p1) (tVar i) := pe_var (X := X.suite a ((a, oe) :: pn)) (show X.N[i]? = some _ by rw [x.N]; exact ixOf_ok hi) (EC.vis_ok (X := X) x.scn hv) b1 b2
    have hs : ([e1] : List Expr).all notStar = true := by rw [List.all_cons, g1]; rfl
    have gv : PE (X.suite a ((a, oe) :: pn)) (.Name y p1) (LE C noW fun env S Q _ => ∃ d, env[i]? = some (some d) ∧ Q d S) := s_var pv
    have ga : PA (X.suite a ((a, oe) :: pn)) [e1] (LA C noW fun env S Q E => LQ a en (wpQx P c' q1) env S (fun d S1 => Q [d] S1) E) := s_cons g2 (s_nil (W := noW)) (mLQ q1) (fun _ _ _ _ _ _ hq _ h => hq _ _ h) (star1 g1)
    have gc := s_bmt (X := X.suite a ((a, oe) :: pn)) (m := .append) (apos := apos) (pos := pos) x.K x.hu gv (fun _ _ _ _ _ _ hq _ ⟨d, e, z⟩ => ⟨d, e, hq _ _ z⟩) ga (fun _ _ _ _ _ _ hq _ h => mLQ q1 _ _ _ _ _ _ (fun d S z => hq _ _ z) (fun _ _ z => z) h) (fun z => by cases z) rfl hs (show (1 : Nat) < 30 by decide) hl
    refine (t_ex gc (fun env S Q Q' E E' hq hE ⟨d, e, k, e2, e3, z⟩ => ⟨d, e, k, e2, e3, mLQ q1 _ _ _ _ _ _ (fun d S z => wpBmt_mono hq z) (fun _ _ z => z) z⟩) rfl).mono fun D σ H ⟨env, S, r, iv, p, e1, xs0, e0, k⟩ => ⟨env, S, r, _, e1, .lst, kdM_lst' e0, rfl, iv, ?_⟩
    exact wpQx_mono q1 (fun d ⟨xs, e2, l, z⟩ => ⟨xs, e2, l, z iv⟩) k
  · cases h
theorem elQms_ok (hz : Zc (.ref (C.ca c')) none oe) (hf : ∃ vs, oe.data = .fields vs) (hen : ∀ e i, en = some (e, i) → ixOf e G.N = some i) {n : Nat} : ∀ {ss : List Stmt} {qs : List Qm}, elQms n G en ss = some qs → PSs (X.suite a ((a, oe) :: pn)) ss (LS C noW (LM a en (wpQ P c' qs)))
  | [], qs, h => by
    cases h
    exact (t_nil (W := noW)).mono fun D σ H ⟨env, S, r, iv, k⟩ => ⟨env, S, r, k iv⟩
  | s :: ss, qs, h => by
    simp only [elQms, Option.bind_eq_bind, Option.bind_eq_some_iff, Option.some.injEq] at h
    obtain ⟨q, hq, qs, hqs, rfl⟩ := h
    exact (t_cons (elQm_ok x (pn := pn) hz hf hen hq) (elQms_ok hz hf hen hqs) (LM.mono fun hk h => wpQm_mono q hk h) (LM.mono fun hk h => wpQ_mono hk h)).mono fun D σ H ⟨env, S, r, iv, k⟩ => ⟨env, S, r, iv, wpQm_mono q (fun e s z i => ⟨i, z⟩) k⟩
theorem XOk.tr {W' : WX} {pn' : List (Addr × Obj)} {xe : Value → Shared → Prop} (tk : Takes (X.tr pn' xe) W') (po : PassesOwn (model X.prog X.w) X.A X.env xe) : XOk G C P R RM W' (X.tr pn' xe) where
  K := x.K
  N := x.N
  nd := x.nd
  scn := x.scn
  sck := x.sck
  fnc := x.fnc
  calm := x.calm
  hu := x.hu
  tk := tk
  po := po
  F := x.F
  gl := fun y g h => by
    have q := x.gl y g h
    cases g with
    | cst d => exact q
    | fn f => obtain ⟨b, h1, h2, h3⟩ := q; exact ⟨b, h1, h2, fun Y W' s => h3 Y W' ⟨s.prog, s.w, s.K, s.mg, s.base, s.A⟩⟩
    | cls c => obtain ⟨b, h1, h2, h3⟩ := q; exact ⟨b, h1, h2, fun Y W' s => h3 Y W' ⟨s.prog, s.w, s.K, s.mg, s.base, s.A⟩⟩
    | exc c => exact q
  bn := x.bn
  fld := x.fld
  mnm := x.mnm
  mth := fun m Y W' s => x.mth m Y W' ⟨s.prog, s.w, s.K, s.mg, s.base, s.A⟩
  sub := x.sub
  isx := x.isx
/-- try: body; except y: suite -/
theorem try_only {body suite : List Stmt} {b0 : Stmt} {y : Str} {np pos pos' : Pos} {b : Sms} {c n : Nat} {qs : List Qm} (hs : X.stack = X.env :: X.outer) (hf : X.env.frame = some X.env.locals) (hc : Names X y (.ref (C.ca c)))
    (hb : ∀ W' X', XOk G C P R RM W' X' → X'.stack = X'.env :: X'.outer → X'.env.frame = some X'.env.locals → PSs X' body (LS C W' (wpSs P R RM b))) (hm : MonoS (wpSs P R RM b)) (hq : elQms n G none (b0 :: suite) = some qs) :
    PS X (.Try body [.ExceptHandler (some (.Name y np)) none (b0 :: suite) pos'] [] [] pos) (LS C W (wpS P R RM (.try_ b c none qs))) := by
  refine (ps_try_only hs hf hc x.tk (tb := fun W' => LS C W' (wpSs P R RM b)) (ts := fun a cls d D σ H => ∃ c' env S, cls = .ref (C.ca c') ∧ d = none ∧ Rl C σ H env S ∧ wpQ P c' qs env S fun e2 S2 => ∀ σ' H', Ext C.K H H' → Rl C σ' H' e2 S2 → D.nx σ' H') (fun W' pn xe tk po => hb W' _ (x.tr tk po) hs hf) fun a oe cls d pn hz hd => ⟨fun pins s σ H D I ⟨c', env, S, e1, e2, r, k⟩ => ?_⟩).mono fun D σ H ⟨env, S, r, k⟩ => ⟨env, S, r, hm _ _ _ _ ?_ k⟩
  · subst e1 e2
    exact (elQms_ok x (en := none) (pn := pn) hz hd (fun _ _ z => nomatch z) hq).run pins s σ H D I ⟨env, S, r, (fun _ _ z => nomatch z), wpQ_mono (fun e s z _ => z) k⟩
  · refine ⟨fun _ _ z => z, fun _ _ z => z, fun _ _ z => z, fun _ _ z => z, fun env' c' S' z σ' H' x' r' => ?_⟩
    obtain ⟨b', e, z⟩ := z
    refine ⟨b', x.K ▸ x.sub _ _ _ e, fun h a _ => ?_, fun h => ?_⟩
    · subst h
      exact ⟨c', env', S', rfl, rfl, r', wpQ_mono (fun e2 S2 y σ2 H2 x2 r2 => y σ2 H2 (x'.trans x2) r2) (z a)⟩
    · subst h
      exact z σ' H' x' r'
/-- try: body; except y as e: suite -/
theorem try_as {body suite : List Stmt} {b0 : Stmt} {y nm : Str} {np pos pos' : Pos} {b : Sms} {c n i : Nat} {qs : List Qm} (hs : X.stack = X.env :: X.outer) (hf : X.env.frame = some X.env.locals) (hl : G.isL nm = true) (hi : ixOf nm G.N = some i) (hc : Names X y (.ref (C.ca c)))
    (hb : ∀ W' X', XOk G C P R RM W' X' → X'.stack = X'.env :: X'.outer → X'.env.frame = some X'.env.locals → PSs X' body (LS C W' (wpSs P R RM b))) (hm : MonoS (wpSs P R RM b)) (hq : elQms n G (some (nm, i)) (b0 :: suite) = some qs) :
    PS X (.Try body [.ExceptHandler (some (.Name y np)) (some nm) (b0 :: suite) pos'] [] [] pos) (LS C W (wpS P R RM (.try_ b c (some i) qs))) := by
  have hln : X.env.kindOf nm = some .local := by
    show X.env.scope.names.lookup nm = _
    rw [x.scn]
    unfold EC.isL at hl
    split at hl
    · assumption
    · cases hl
  refine (ps_try_as hs hf x.nd (by rw [x.N]; exact ixOf_ok hi) hln hc x.tk (tb := fun W' => LS C W' (wpSs P R RM b)) (ts := fun a cls d D σ H => ∃ (c' : Nat) (env : Env) (S : Store), cls = .ref (C.ca c') ∧ d = none ∧ Rl C σ H (env.set i (some (.ref a))) S ∧ wpQ P c' qs (env.set i (some (.ref a))) S fun e2 S2 => ∀ σ' H', Ext C.K H H' → Rl C σ' H' e2 S2 → D.nx σ' H') (fun W' pn xe tk po => hb W' _ (x.tr tk po) hs hf) fun a oe cls d pn hz hd => ⟨fun pins s σ H D I ⟨c', env, S, e1, e2, r, k⟩ => ?_⟩).mono fun D σ H ⟨env, S, r, k⟩ => ⟨env, S, r, hm _ _ _ _ ?_ k⟩
  · subst e1 e2
    have hlt : i < env.length := by
      have l1 := r.1
      rw [List.length_set] at l1
      have l2 : σ.length = X.N.length := I.len
      have l3 : X.N[i]? = some nm := by rw [x.N]; exact ixOf_ok hi
      have l4 := (List.getElem?_eq_some_iff.mp l3).1
      omega
    have e3 : (env.set i (some (.ref a)))[i]? = some (some (.ref a)) := by rw [List.getElem?_set_self hlt]
    exact (elQms_ok x (en := some (nm, i)) (pn := pn) hz hd (fun _ _ z => by cases z; exact hi) hq).run pins s σ H D I ⟨_, S, r, (fun _ _ z => by cases z; exact e3), wpQ_mono (fun e s z _ => z) k⟩
  · refine ⟨fun _ _ z => z, fun _ _ z => z, fun _ _ z => z, fun _ _ z => z, fun env' c' S' z σ' H' x' r' => ?_⟩
    obtain ⟨b', e, z⟩ := z
    refine ⟨b', x.K ▸ x.sub _ _ _ e, fun h a _ => ?_, fun h => ?_⟩
    · subst h
      exact ⟨c', env', S', rfl, rfl, r'.set i (.ref a), wpQ_mono (fun e2 S2 y σ2 H2 x2 r2 => y _ H2 (x'.trans x2) (r2.unset i)) (z a)⟩
    · subst h
      exact z σ' H' x' r'
end
end SW
/-! SW, part N: statements from the text. -/
namespace SW
open PySem PySem.Spec PyProof.Rows L2
/-- no comprehension: its value is stored the plain way -/
def noComp : Expr → Bool
  | .ListComp _ _ _ _ => false
  | .SetComp _ _ _ _ => false
  | .DictComp _ _ _ _ _ => false
  | _ => true
def noTuple : Expr → Bool
  | .Tuple _ _ _ => false
  | _ => true
def augOf : Operator → Option Bop
  | .Add => some .add
  | .Sub => some .sub
  | _ => none
def elSs (f : Stmt → Option Sm) : List Stmt → Option Sms
  | [] => some .nil
  | s :: ss => do
    let a ← f s
    let b ← elSs f ss
    some (.cons a b)
/-- four names or more, of a name -/
def fourN (ts : List Expr) : Expr → Bool
  | .Name _ _ => ts.length == 4
  | _ => false
def elN (n : Nat) (G : EC) (y : Str) (e : Expr) : Option Sm := do
  chk (G.sto y)
  let i ← ixOf y G.N
  let x ← elE n G e
  some (.asg (.nm i) x)
def elY (r : Stmt → Option Sm) (n : Nat) (G : EC) : Stmt → Option Sm
  | .Return (some e) _ => do
    let x ← elE n G e
    some (.ret x)
  | .Return none _ => some .retN
  | .Expr (.Constant (.str _) _ _) _ => some .pass
  | .Expr e _ => do
    chk (noComp e)
    let x ← elE n G e
    some (.ex x)
  | .Assign [.Name y _] e _ => elN n G y e
  | .Assign [.Tuple ts _ _] e _ => do
    chk (noTuple e && noComp e)
    let t ← elTs n G ts
    let x ← elE n G e
    some (bif fourN ts e then .asgL t x else .asg (.tup t) x)
  | .Assign [.Attribute o f _] e _ => do
    chk (noComp e)
    let a ← elE n G o
    let i ← G.flds.lookup f
    let x ← elE n G e
    some (.asF a i x)
  | .Assign [.Subscript o i _] e _ => do
    chk (noSlice i && noComp e)
    let a ← elE n G o
    let b ← elE n G i
    let x ← elE n G e
    some (.asS a b x)
  | .AugAssign (.Name y _) op e _ => do
    chk (G.sto y)
    let i ← ixOf y G.N
    let o ← augOf op
    let x ← elE n G e
    some (.aug i o x)
  | .AugAssign (.Attribute a f _) op e _ => do
    let y ← elE n G a
    let i ← G.flds.lookup f
    let o ← augOf op
    let x ← elE n G e
    some (.auF y i o x)
  | .AugAssign (.Subscript a i _) op e _ => do
    chk (noSlice i)
    let x ← elE n G a
    let y ← elE n G i
    let o ← augOf op
    let z ← elE n G e
    some (.auS x y o z)
  | .If t a b _ => do
    chk (tst t)
    let c ← elE n G t
    let x ← elSs r a
    let y ← elSs r b
    some (.ite c x y)
  | .For tg iter body [] _ => do
    let t ← elT n G tg
    let b ← elSs r body
    match dwalk G tg iter with
    | some (items, a) => do
      let e ← elE n G a
      some (.forD t items e b)
    | none => do
      let it ← elI (elE n G) G tg iter
      some (.for_ t it b)
  | .While t body [] _ => do
    chk (tst t)
    let c ← elE n G t
    let b ← elSs r body
    some (.while_ c b)
  | .Pass _ => some .pass
  | .Continue _ => some .cont
  | .Break _ => some .brk
  | .Raise (some (.Call (.Name x _) [.Constant (.str _) _ _] [] _)) none _ => do
    chk (G.isG x && !badN x)
    match G.gl.lookup x with
    | some (.exc c) => some (.raise c)
    | _ => none
  | .Try body [.ExceptHandler (some (.Name x _)) none (b0 :: suite) _] [] [] _ => do
    chk (G.isG x && !badN x)
    let b ← elSs r body
    let q ← elQms n G none (b0 :: suite)
    match G.gl.lookup x with
    | some (.exc c) => some (.try_ b c none q)
    | _ => none
  | .Try body [.ExceptHandler (some (.Name x _)) (some y) (b0 :: suite) _] [] [] _ => do
    chk (G.isG x && (!badN x && G.isL y))
    let i ← ixOf y G.N
    let b ← elSs r body
    let q ← elQms n G (some (y, i)) (b0 :: suite)
    match G.gl.lookup x with
    | some (.exc c) => some (.try_ b c (some i) q)
    | _ => none
  | _ => none
def elS : Nat → EC → Stmt → Option Sm
  | 0, _, _ => none
  | n + 1, G, s => elY (elS n G) (n + 1) G s
theorem swapsWith_no {e : Expr} {t : Option Expr} {l : Nat} {env : PySem.Env} (h : noComp e = true) : swapsWith e t l env = pure false := by
  cases e <;> first | rfl | cases h
theorem sole_no {tg e : Expr} {l : Nat} {env : PySem.Env} (h : noComp e = true) : swapsWithSole [tg] e l env = pure false := swapsWith_no (t := some tg) h
theorem swappedStores_no {tg e : Expr} {env : PySem.Env} (h : noTuple e = true) : swappedStores [tg] e env = pure none := by
  cases e <;> first | (cases tg <;> rfl) | cases h
theorem subStores_no {o i e : Expr} {p : Pos} {env : PySem.Env} : swappedStores [.Subscript o i p] e env = pure none := by
  cases e <;> rfl
theorem assignSub {o i : Expr} {p : Pos} {env : PySem.Env} (h : noSlice i = true) : ∀ v, assign (.Subscript o i p) env v = (do
      let ov ← holding [v] (eval o env)
      let iv ← holding [v, ov] (eval i env)
      standAt p
      holding [v, ov, iv] (setItem ov iv v)
      release [v, ov, iv] []) := by
  intro v
  cases i <;> first | rfl | cases h
theorem augSub {i : Expr} (h : noSlice i = true) : ∀ ov iv new, augStore i ov iv new = (do holding [new, ov, iv] (setItem ov iv new); release [new, ov, iv] []; pure .next) := by
  intro ov iv new
  cases i <;> first | rfl | cases h
theorem swapsWith_lc {elt : Expr} {gs : List Comprehension} {scope : Scope} {pos py : Pos} {y : Str} {l : Nat} {env : PySem.Env} (hk : env.scope.kind = .function)
    (h : (env.scope.names.lookup y == some .local && (py.line == pos.line && !(scope.names.any fun (n, k) => n == y && (k == .local || k == .cell)))) = false) :
    swapsWith (.ListComp elt gs scope pos) (some (.Name y py)) l env = pure false := by
  have hb : env.blockKind = .function := by unfold Env.blockKind; rw [hk]; rfl
  unfold swapsWith
  simp only [hb]
  have e : (ScopeKind.function == ScopeKind.function && env.kindOf y == some NameKind.local && py.line == (Expr.ListComp elt gs scope pos).pos.line && !(scope.names.any fun (n, k) => n == y && (k == .local || k == .cell))) = false := by
    rw [← Bool.and_assoc] at h
    exact h
  rw [e]
section
variable {P : Prg} {R RM : Rec} (mR : MonoR R) (mM : MonoR RM)
include mR mM
theorem mS (s : Sm) : MonoS (wpS P R RM s) := fun _ _ _ _ hk h => wpS_mono mR mM s hk h
theorem mSs (s : Sms) : MonoS (wpSs P R RM s) := fun _ _ _ _ hk h => wpSs_mono mR mM s hk h
theorem elSs_ok {X : Cx} {C : Cn} {W : WX} {f : Stmt → Option Sm} (hf : ∀ s ir, f s = some ir → PS X s (LS C W (wpS P R RM ir))) : ∀ {ss : List Stmt} {irs : Sms}, elSs f ss = some irs → PSs X ss (LS C W (wpSs P R RM irs))
  | [], irs, h => by
    cases h
    exact t_nil
  | s :: ss, irs, h => by
    simp only [elSs, Option.bind_eq_bind, Option.bind_eq_some_iff, Option.some.injEq] at h
    obtain ⟨a, ha, b, hb, rfl⟩ := h
    exact t_cons (w := wpS P R RM a) (ws := wpSs P R RM b) (hf s a ha) (elSs_ok hf hb) (mS mR mM a) (mSs mR mM b)
omit mR mM in
theorem aug_rule {X : Cx} {C : Cn} {op : Operator} {o : Bop} (h : augOf op = some o) : InOp X op (RAug C o) := by
  cases op <;> cases h
  · exact aug_add
  · exact aug_sub
theorem elN_ok {n : Nat} {G : EC} {C : Cn} {W : WX} {X : Cx} (x : XOk G C P R RM W X) {y : Str} {py pos : Pos} {e : Expr} {ir : Sm} (h : elN n G y e = some ir) : PS X (.Assign [.Name y py] e pos) (LS C W (wpS P R RM ir)) := by
  simp only [elN, Option.bind_eq_bind, Option.bind_eq_some_iff, chk_some, Option.some.injEq] at h
  obtain ⟨_, h1, i, hi, a, ha, rfl⟩ := h
  obtain ⟨h2, h3⟩ := EC.sto_ok x.scn x.fnc h1
  have hN : X.N[i]? = some y := by rw [x.N]; exact ixOf_ok hi
  have g : PG X (.Name y py) (LG C (.nm i)) := g_name (pg_name x.nd hN h2 h3)
  obtain ⟨_, g2, _⟩ := elE_ok mR mM n x e a ha
  have plain : swapsWith e (some (.Name y py)) pos.line X.env = pure false → PS X (.Assign [.Name y py] e pos) (LS C W (wpS P R RM (.asg (.nm i) a))) := fun hs =>
    t_asg g2 (mE mR mM a) g hs (by cases e <;> rfl) rfl
  cases hc : noComp e with
  | true => exact plain (swapsWith_no hc)
  | false =>
    cases e with
    | ListComp elt gs scope cpos =>
      cases hsw : (X.env.scope.names.lookup y == some .local && (py.line == cpos.line && !(scope.names.any fun (n, k) => n == y && (k == .local || k == .cell)))) with
      | false => exact plain (swapsWith_lc x.sck hsw)
      | true =>
        rw [Bool.and_eq_true, Bool.and_eq_true, Bool.not_eq_true'] at hsw
        have hyl : X.env.scope.names.lookup y = some .local := eq_of_beq hsw.1
        cases n with
        | zero => simp only [elE] at ha; cases ha
        | succ n =>
          replace ha : elX (elE n) n G (.ListComp elt gs scope cpos) = some a := ha
          unfold elX at ha
          split at ha <;> first | contradiction | skip
          · rename_i e1
            injection e1 with q1 q2 q3 q4
            subst q1 q2 q3 q4
            split at ha
            · rename_i items a' hd
              obtain ⟨d, own, t, c, v, rfl, i1, i2, ok, g1, g2, g3, hin⟩ := comp_partsD mR mM x (fun e ir h => elE_ok mR mM n x e ir h) (fun G' W' X' x' e ir h => elE_ok mR mM n x' e ir h) hd ha
              exact t_asgL (i := i) (te := tLockE (tLc (if items = true then iItems (LE C W (wpE P R RM d)) else iKeys (LE C W (wpE P R RM d))) (LG C t) (LT C noW (wpE P R RM c)) (LE C noW (wpE P R RM v)) (own.map fun x : Str × Nat => x.2))) (we := wpE P R RM (.compD v t items d c (own.map fun x => x.2))) ((ps_lock (ps_setLc x.calm x.nd hN hyl (sw_true x.sck hyl hsw.2.1 hsw.2.2) i1 ok g1 g2 g3 i2)).mono fun D σ H h => h) (s_compD (mE mR mM d) (mE mR mM c) (mE mR mM v) hin) (mE mR mM _)
            obtain ⟨it, own, t, c, v, rfl, i1, i2, ok, g1, g2, g3, hin⟩ := comp_parts mR mM x (fun e ir h => elE_ok mR mM n x e ir h) (fun G' W' X' x' e ir h => elE_ok mR mM n x' e ir h) ha
            exact t_asgL (we := wpE P R RM (.comp v t it c (own.map fun x => x.2))) (ps_setLc x.calm x.nd hN hyl (sw_true x.sck hyl hsw.2.1 hsw.2.2) i1 ok g1 g2 g3 i2) (s_comp x.calm x.nd i1 (mI mR mM it) ok g1 g2 g3 (mE mR mM c) (mE mR mM v) hin) (mE mR mM _)
    | SetComp elt gs scope cpos =>
      cases n with
      | zero => simp only [elE] at ha; cases ha
      | succ n => cases ha
    | DictComp k v gs scope cpos =>
      cases n with
      | zero => simp only [elE] at ha; cases ha
      | succ n => cases ha
    | _ => cases hc
theorem elS_ok : ∀ (n : Nat) {G : EC} {C : Cn} {W : WX} {X : Cx} (x : XOk G C P R RM W X) (_ : X.stack = X.env :: X.outer) (_ : X.env.frame = some X.env.locals) (s : Stmt) (ir : Sm), elS n G s = some ir → PS X s (LS C W (wpS P R RM ir)) := by
  intro n
  induction n with
  | zero => intro G C W X x _ _ s ir h; simp only [elS] at h; cases h
  | succ n ih =>
    intro G C W X x hs1 hs2 s ir h
    have hf : ∀ s ir, elS n G s = some ir → PS X s (LS C W (wpS P R RM ir)) := fun s ir h => ih x hs1 hs2 s ir h
    replace h : elY (elS n G) (n + 1) G s = some ir := h
    have he : ∀ e a, elE (n + 1) G e = some a → PE X e (LE C W (wpE P R RM a)) := fun e a h => (elE_ok mR mM _ x e a h).2.1
    have ht : ∀ e a, elE (n + 1) G e = some a → tst e = true → PT X e (LT C W (wpE P R RM a)) := fun e a h => (elE_ok mR mM _ x e a h).2.2
    unfold elY at h
    split at h
    · simp only [Option.bind_eq_bind, Option.bind_eq_some_iff, Option.some.injEq] at h
      obtain ⟨a, ha, rfl⟩ := h
      exact t_ret (he _ _ ha) (mE mR mM a)
    · cases h
      exact t_retN
    · cases h
      exact ps_doc.mono fun D σ H ⟨env, S, r, q⟩ => q σ H Ext.refl r
    · simp only [Option.bind_eq_bind, Option.bind_eq_some_iff, chk_some, Option.some.injEq] at h
      obtain ⟨_, h0, a, ha, rfl⟩ := h
      exact t_ex (he _ _ ha) (mE mR mM a) (swapsWith_no h0)
    · exact elN_ok mR mM x h
    · simp only [Option.bind_eq_bind, Option.bind_eq_some_iff, chk_some, Option.some.injEq, Bool.and_eq_true] at h
      obtain ⟨_, ⟨h0, h1⟩, t, ht', a, ha, rfl⟩ := h
      obtain ⟨l1, l2⟩ := elTs_len ht'
      cases hf : fourN _ _ with
      | false => exact t_asg (he _ _ ha) (mE mR mM a) (g_tup x.K x.calm (elTs_ok x ht') _ (l2 _).1 (l2 _).2 fun ds env env2 q => (asgTs_n q).trans l1) (sole_no h1) (swappedStores_no h0) rfl
      | true => exact t_asgU (he _ _ ha) (mE mR mM a) (g_tupU x.K x.calm (elTs_ok x ht') _ (l2 _).1 (l2 _).2 fun ds env env2 q => (asgTs_n q).trans l1) (sole_no h1) (swappedStores_no h0) rfl
    · simp only [Option.bind_eq_bind, Option.bind_eq_some_iff, chk_some, Option.some.injEq] at h
      obtain ⟨_, h0, a, ha, i, hi, b, hb, rfl⟩ := h
      obtain ⟨f1, f2⟩ := x.fld _ _ hi
      exact t_asF x.K x.F f1 f2 (he _ _ ha) (he _ _ hb) (mE mR mM a) (mE mR mM b) (swapsWith_no h0)
    · simp only [Option.bind_eq_bind, Option.bind_eq_some_iff, chk_some, Option.some.injEq, Bool.and_eq_true] at h
      obtain ⟨_, ⟨h0, h1⟩, a, ha, b, hb, c, hc, rfl⟩ := h
      exact t_asS x.hu (he _ _ ha) (he _ _ hb) (he _ _ hc) (mE mR mM a) (mE mR mM b) (mE mR mM c) (sole_no h1) subStores_no (assignSub h0)
    · simp only [Option.bind_eq_bind, Option.bind_eq_some_iff, chk_some, Option.some.injEq] at h
      obtain ⟨_, h1, i, hi, o, ho, a, ha, rfl⟩ := h
      obtain ⟨h2, h3⟩ := EC.sto_ok x.scn x.fnc h1
      exact t_aug (aug_rule ho) x.nd (by rw [x.N]; exact ixOf_ok hi) h2 h3 (he _ _ ha) (mE mR mM a)
    · simp only [Option.bind_eq_bind, Option.bind_eq_some_iff, Option.some.injEq] at h
      obtain ⟨a, ha, i, hi, o, ho, b, hb, rfl⟩ := h
      obtain ⟨f1, f2⟩ := x.fld _ _ hi
      exact t_auF x.K x.F f1 f2 (aug_rule ho) (he _ _ ha) (he _ _ hb) (mE mR mM a) (mE mR mM b)
    · simp only [Option.bind_eq_bind, Option.bind_eq_some_iff, chk_some, Option.some.injEq] at h
      obtain ⟨_, h0, a, ha, i, hi, o, ho, b, hb, rfl⟩ := h
      exact t_auS x.hu (aug_rule ho) (he _ _ ha) (he _ _ hi) (he _ _ hb) (mE mR mM a) (mE mR mM i) (mE mR mM b) (augSub h0)
    · simp only [Option.bind_eq_bind, Option.bind_eq_some_iff, chk_some, Option.some.injEq] at h
      obtain ⟨_, h0, c, hc, a, ha, b, hb, rfl⟩ := h
      exact t_ite (ht _ _ hc h0) (elSs_ok mR mM hf ha) (elSs_ok mR mM hf hb) (mE mR mM c) (mSs mR mM a) (mSs mR mM b)
    · simp only [Option.bind_eq_bind, Option.bind_eq_some_iff, Option.some.injEq] at h
      obtain ⟨t, ht', b, hb, h⟩ := h
      split at h
      · rename_i items a hd
        simp only [Option.bind_eq_bind, Option.bind_eq_some_iff, Option.some.injEq] at h
        obtain ⟨e, he', rfl⟩ := h
        obtain ⟨i1, i2⟩ := dwalk_ok hd (he _ _ he')
        exact forD_core (mE mR mM e) (mSs mR mM b) (ps_for x.po x.calm i1 (elT_ok x ht') (elSs_ok mR mM hf hb) i2)
      · simp only [Option.bind_eq_bind, Option.bind_eq_some_iff, Option.some.injEq] at h
        obtain ⟨it, hit, rfl⟩ := h
        obtain ⟨i1, i2⟩ := elI_ok mR mM x (fun e ir h => elE_ok mR mM _ x e ir h) hit
        exact t_for x.po x.calm i1 (mI mR mM it) (elT_ok x ht') (elSs_ok mR mM hf hb) (mSs mR mM b) i2
    · simp only [Option.bind_eq_bind, Option.bind_eq_some_iff, chk_some, Option.some.injEq] at h
      obtain ⟨_, h0, c, hc, b, hb, rfl⟩ := h
      exact t_while x.po (ht _ _ hc h0) (elSs_ok mR mM hf hb) (mE mR mM c) (mSs mR mM b)
    · cases h
      exact t_pass
    · cases h
      exact t_cont
    · cases h
      exact t_brk
    · simp only [Option.bind_eq_bind, Option.bind_eq_some_iff, chk_some, Bool.and_eq_true] at h
      obtain ⟨_, ⟨h0, hb⟩, h⟩ := h
      obtain ⟨b1, _, _⟩ := badN_ok hb
      split at h
      · cases h
        rename_i hl
        obtain ⟨m1, m2, m3, m4, m5⟩ := x.gl _ _ hl
        refine (ps_raise x.calm x.tk (pmk_own PySem.F.excBase_ValueError m2 m1 m3 (raises_own m4 m5) (EC.isG_ok x.scn h0) b1)).mono fun D σ H ⟨env, S, r, q⟩ => ?_
        exact q σ H Ext.refl r
      · cases h
    · simp only [Option.bind_eq_bind, Option.bind_eq_some_iff, chk_some, Bool.and_eq_true] at h
      obtain ⟨_, ⟨h0, hb⟩, b, hbd, q, hq, h⟩ := h
      obtain ⟨b1, _, _⟩ := badN_ok hb
      split at h
      · cases h
        rename_i hl
        obtain ⟨m1, _⟩ := x.gl _ _ hl
        exact try_only x hs1 hs2 ⟨EC.isG_ok x.scn h0, b1, .inl m1⟩ (fun W' X' x' s1 s2 => elSs_ok mR mM (fun s ir h => ih x' s1 s2 s ir h) hbd) (mSs mR mM b) hq
      · cases h
    · simp only [Option.bind_eq_bind, Option.bind_eq_some_iff, chk_some, Bool.and_eq_true] at h
      obtain ⟨_, ⟨h0, hb, hlo⟩, i, hi, b, hbd, q, hq, h⟩ := h
      obtain ⟨b1, _, _⟩ := badN_ok hb
      split at h
      · cases h
        rename_i hl
        obtain ⟨m1, _⟩ := x.gl _ _ hl
        exact try_as x hs1 hs2 hlo hi ⟨EC.isG_ok x.scn h0, b1, .inl m1⟩ (fun W' X' x' s1 s2 => elSs_ok mR mM (fun s ir h => ih x' s1 s2 s ir h) hbd) (mSs mR mM b) hq
      · cases h
    · cases h
end
end SW
/-! SW, part O: defs, their runs to a depth, the link with the program's text. -/
namespace SW
open PySem PySem.Spec PyProof.Rows L2
structure FD where
  np : Nat
  ns : Nat
  body : Sms
def startE (n : Nat) (ds : List D) : Env := ds.map some ++ List.replicate (n - ds.length) none
def noK : Env → Store → Prop := fun _ _ => False
def endK (Q : PQ) (E : PX) : Kt := ⟨fun _ S => Q .non S, Q, noK, noK, fun _ => E⟩
def stepR (P : Prg) (T : Nat → Option FD) (R RM : Rec) : Rec := fun f ds S Q E => ∃ d, T f = some d ∧ ds.length = d.np ∧ wpSs P R RM d.body (startE d.ns ds) S (endK Q E)
def botR : Rec := fun _ _ _ _ _ => False
/-- what the defs do, to a depth of calls; what makers do -/
def runs (P : Prg) (T : Nat → Option FD) : Nat → Rec × Rec
  | 0 => (botR, botR)
  | k + 1 => (stepR P T (runs P T k).1 (runs P T k).2, (runs P T k).1)
abbrev run (P : Prg) (T : Nat → Option FD) (k : Nat) : Rec := (runs P T k).1
abbrev runM (P : Prg) (T : Nat → Option FD) (k : Nat) : Rec := (runs P T k).2
theorem botR_mono : MonoR botR := fun _ _ _ _ _ _ _ _ _ h => h
theorem stepR_mono {P : Prg} {T : Nat → Option FD} {R RM : Rec} (mR : MonoR R) (mM : MonoR RM) : MonoR (stepR P T R RM) := fun f ds S Q Q' E E' hq hE ⟨d, e, l, h⟩ =>
  ⟨d, e, l, wpSs_mono (K := endK Q E) (K' := endK Q' E') mR mM d.body ⟨fun _ _ z => hq _ _ z, hq, fun _ _ z => z, fun _ _ z => z, fun _ => hE⟩ h⟩
theorem runs_mono (P : Prg) (T : Nat → Option FD) : ∀ k, MonoR (run P T k) ∧ MonoR (runM P T k)
  | 0 => ⟨botR_mono, botR_mono⟩
  | k + 1 => ⟨stepR_mono (runs_mono P T k).1 (runs_mono P T k).2, (runs_mono P T k).1⟩
/-- a def of the text, as the small language has it -/
def EC.fn (G : EC) (N : List Str) (scope : Scope) : EC := { G with N := N, sc := scope.names, own := (scope.names.filter fun p => p.2 == .cell).map (·.1) }
structure FnL (C : Cn) (G : EC) (a : Addr) (d : FD) (fd : FuncData) (ps : List Str) : Prop where
  ex : ∃ (name qual : Str) (params : Arguments) (body : List Stmt) (scope : Scope) (N : List Str) (n : Nat) (dn : List Str), FunD C.K name qual params body scope [] [] a fd ∧ FnScope N ps scope ∧ N.length = d.ns ∧ elSs (elS n ({ G with dn := dn }.fn N scope)) body = some d.body
  np : ps.length = d.np
  bd : ∀ (s : Shared) (us : List Value), us.length = ps.length → BindsTo s fd ⟨us, []⟩ (ps.zip us)
theorem FnL.binds {C : Cn} {G : EC} {a : Addr} {d : FD} {fd : FuncData} {ps : List Str} (F : FnL C G a d fd ps) : Binds C.K fd ps [] := fun s us _ hl => by
  rw [List.append_nil] at hl ⊢
  exact F.bd s us hl
def GlL (C : Cn) (P : Prg) (T : Nat → Option FD) (ad : Nat → Addr) (mg : Str → Option Value) (x : Str) : Gk → Prop
  | .cst d => ∃ v u, mg x = some u ∧ RelV v u ∧ ∀ H, RV C.K H v d
  | .fn f => mg x = some (.ref (ad f)) ∧ PySem.W.keepIn C.K (.ref (ad f)) = true ∧ (T f).isSome = true
  | .cls c => mg x = some (.ref (C.ca c)) ∧ PySem.W.keepIn C.K (.ref (C.ca c)) = true
  | .exc c => mg x = some (.ref (C.ca c)) ∧ PySem.W.excIn C.K (C.ca c) He.veBase "ValueError.__new__" = true ∧ PySem.W.keepIn C.K (.ref (C.ca c)) = true ∧
      PySem.W.subIn C.K (.ref (C.ca c)) (.type "BaseException") = some true ∧ PySem.W.typeIn C.K (.ref (C.ca c)) = some (.type "type")
structure Lk (C : Cn) (P : Prg) (T : Nat → Option FD) (G : EC) (ad : Nat → Addr) (mg : Str → Option Value) : Prop where
  F : Fcts C
  fns : ∀ f d, T f = some d → ∃ fd ps, FnL C G (ad f) d fd ps
  gl : ∀ x g, G.gl.lookup x = some g → GlL C P T ad mg x g
  bn : ∀ x, G.bn.contains x = true → mg x = none
  fld : ∀ s f, G.flds.lookup s = some f → C.nm f = s ∧ C.isF f
  mnm : ∀ s f, G.mths.lookup s = some f → C.nm f = s
  mth : ∀ c m f, P.meth c m = some f → Meth C.K (C.ca c) (C.nm m) (ad f) ∧ (T f).isSome = true
  ini : ∀ c f, P.init c = some f → Mk C.K (C.ca c) (ad f) ∧ (T f).isSome = true
  icl : ∀ c f, P.init c = some f → C.isC c
  sub : ∀ c' c b, P.sub c' c = some b → PySem.W.exmOne C.K (.ref (C.ca c')) (.ref (C.ca c)) = some b
  isx : ∀ c' oc b, P.isx c' oc = some b → ExcC C.K (C.ca c') ∧ PySem.W.kitOne C.K (.ref (C.ca c')) (cvU C oc) = some b
def XQ (C : Cn) (H : Hp) (E : XK) : PX := fun c S' => ∀ H', Ext C.K H H' → SOk C H' S' → E (.ref (C.ca c)) none H'
/-- a def's promise -/
def spR (C : Cn) (R : Rec) (n f : Nat) : Sp := fun vs H Q E => ∃ ds S, ds.length = n ∧ RVs C.K H vs ds ∧ SOk C H S ∧ R f ds S (QV C H Q) (XQ C H E)
theorem start_rl {C : Cn} {H : Hp} {S : Store} {N : List Str} {vs : List V} {ds : List D} {n : Nat} (r : RVs C.K H vs ds) (ok : SOk C H S) (hn : N.length = n) : Rl C (L2.start N vs) H (startE n ds) S := by
  have hl := r.length
  refine ⟨?_, fun i d e => ?_, ok⟩
  · unfold L2.start startE
    rw [List.length_append, List.length_append, List.length_map, List.length_map, List.length_replicate, List.length_replicate, hl, hn]
  · unfold startE at e
    unfold L2.start
    by_cases hi : i < ds.length
    · rw [List.getElem?_append_left (by simpa using hi), List.getElem?_map] at e
      cases q : ds[i]? with
      | none => rw [q] at e; cases e
      | some d' =>
        rw [q] at e
        cases e
        obtain ⟨v, h1, h2⟩ := r.get q
        refine ⟨v, ?_, h2⟩
        rw [List.getElem?_append_left (by simpa [hl] using hi), List.getElem?_map, h1]
        rfl
    · rw [List.getElem?_append_right (by simpa using Nat.le_of_not_lt hi), List.getElem?_replicate] at e
      split at e <;> cases e
theorem fn_call {X : Cx} {C : Cn} {W : WX} {a : Addr} {fd : FuncData} {ps : List Str} {R : Rec} {k n f : Nat} (hK : X.K = C.K) (F : FnOk X.prog X.w X.K X.mg X.base (L2.CX X.prog X.w) k a fd ps (spR C R n f)) (hr : Room k X.A) (hb : Binds C.K fd ps [])
    (tk : Takes X W) (mR : MonoR R) (hn : ∀ ds S Q E, R f ds S Q E → ds.length = n) : CallOk X C W a fun ds S Q E => R f ds S Q E := by
  intro pins σ H s us vs ds S Q I rv rd ok h
  exact run_fnS (E := L2.WE W) F hr (hK ▸ hb) (passAt tk σ) I rv ⟨ds, S, hn _ _ _ _ h, rd, ok, h⟩
/-- a new instance, where the wish is for the slots σ -/
theorem mk_at {X : Cx} {CX : CXT} {k : Nat} {c f : Addr} {fd : FuncData} {ps : List Str} {sp : Sp} {E : XK} {pins : List (Addr × Obj)} {σ : St2} {H : Hp} {s : Shared} {Q : VK} {us : List Value} {vs : List V}
    (M : Mk X.K c f) (F : FnOk X.prog X.w X.K X.mg X.base CX k f fd ps sp) (hr : Room (k + 1) X.A) (hb : Binds X.K fd ps []) (hx : PassesAt CX X σ E) (I : L2.Inv X pins σ H s) (r : Vals vs us)
    (h : ∀ x dx, H x = none → H dx = none → dx ≠ x → sp (.ref x :: vs) (upd (upd H dx (.own x)) x (.ins c dx [])) (fun v H2 => v = .non ∧ Q (.ref x) H2) E) :
    wpAny (model X.prog X.w) X.A (call (.ref c) us) (EP X pins σ Q) X.xe s := by
  have b0 := I.hok.fresh (Nat.le_refl s.heap.objs.size)
  have b1 := I.hok.fresh (Nat.le_succ s.heap.objs.size)
  have q := h _ _ b1 b0 (Nat.ne_of_lt (Nat.lt_succ_self _))
  have J := Inv.made (C := c) I
  have rr : Vals (V.ref (s.heap.objs.size + 1) :: vs) (Value.ref (s.heap.objs.size + 1) :: us) := .cons rfl r
  have len := F.len _ _ _ _ q
  have bnd := hb _ (Value.ref (s.heap.objs.size + 1) :: us) J.kIn (by rw [List.append_nil, ← rr.length]; exact len)
  rw [List.append_nil] at bnd
  have go := F.run _ X.stack _ _ ⟨Value.ref (s.heap.objs.size + 1) :: us, []⟩ _ _ _ E (hr.make c us []) (J.env0.make c us []) bnd rr q
  apply wpAny_call
  apply make_map (f := f) I.kIn M.makes M.init (beq_iff_eq.mp M.fn)
  refine codeAny_mono go ?_
  intro z s' hz
  match z, hz with
  | .error e, hz => exact hx pins _ _ e s' J hz
  | .ok (.ret u), hz =>
    obtain ⟨v, H', J2, rv, ev, z⟩ := J.after hz
    subst ev
    exact ⟨rv, .ref (s.heap.objs.size + 1), H', J2, rfl, z⟩
  | .ok .next, hz => exact hz.elim
  | .ok .brk, hz => exact hz.elim
  | .ok .cont, hz => exact hz.elim
theorem mk_call {X : Cx} {C : Cn} {W : WX} {c : Nat} {a : Addr} {fd : FuncData} {ps : List Str} {P : Prg} {R : Rec} {k n f : Nat} (hK : X.K = C.K) (hc : C.isC c) (M : Mk C.K (C.ca c) a) (hi : P.init c = some f)
    (F : FnOk X.prog X.w X.K X.mg X.base (L2.CX X.prog X.w) k a fd ps (spR C R n f)) (hr : Room (k + 1) X.A) (hb : Binds C.K fd ps [])
    (tk : Takes X W) (mR : MonoR R) (hn : ∀ ds S Q E, R f ds S Q E → ds.length = n) : CallOk X C W (C.ca c) (mkW P R c) := by
  intro pins σ H s us vs ds S Q I rv rd ok ⟨f', e1, h⟩
  rw [hi] at e1
  cases e1
  refine mk_at (E := L2.WE W σ) (hK ▸ M) F hr (hK ▸ hb) (passAt tk σ) I rv fun x dx nx ndx nex => ?_
  have x1 : Ext C.K H (upd H dx (.own x)) := Ext.new ndx
  have ok1 : SOk C (upd H dx (.own x)) S := ok.new0 ndx
  have nx1 : (upd H dx (.own x)) x = none := by rw [upd_ne (fun z => nex z.symm)]; exact nx
  have x2 : Ext C.K (upd H dx (.own x)) (upd (upd H dx (.own x)) x (.ins (C.ca c) dx [])) := Ext.new nx1
  have q := h x (ok.none_of nx)
  refine ⟨.ref x :: ds, S.upd x (.ins c []), hn _ _ _ _ q, .cons (.ref x) (rd.ext (x1.trans x2)), ok1.new nx1 ⟨dx, [], upd_same, .nil, hc⟩, mR _ _ _ _ _ _ _ (fun v S2 ⟨e, z⟩ => ?_) (fun c S' q H' x3 ok' => q H' ((x1.trans x2).trans x3) ok') q⟩
  subst e
  intro v2 H2 x3 ok2 rv2
  cases rv2
  exact ⟨rfl, z (.ref x) H2 ((x1.trans x2).trans x3) ok2 (.ref x)⟩
section
variable {C : Cn} {P : Prg} {T : Nat → Option FD} {G : EC} {ad : Nat → Addr} {mg : Str → Option Value} {prog : Program} {w : World} {base : Heap}
def OkF (C : Cn) (G : EC) (T : Nat → Option FD) (ad : Nat → Addr) (mg : Str → Option Value) (prog : Program) (w : World) (base : Heap) (R : Rec) (k : Nat) : Prop :=
  ∀ f d fd ps, T f = some d → FnL C G (ad f) d fd ps → FnOk prog w C.K mg base (L2.CX prog w) k (ad f) fd ps (spR C R d.np f)
theorem okF_bot {k : Nat} : OkF C G T ad mg prog w base botR k := fun f d fd ps _ _ => ⟨fun _ _ _ _ ⟨_, _, _, _, _, h⟩ => h.elim, fun _ _ _ _ _ _ _ _ _ _ _ _ _ ⟨_, _, _, _, _, h⟩ => h.elim⟩
def LenR (T : Nat → Option FD) (R : Rec) : Prop := ∀ f d ds S Q E, T f = some d → R f ds S Q E → ds.length = d.np
theorem runs_len (P : Prg) (T : Nat → Option FD) : ∀ k, LenR T (run P T k) ∧ LenR T (runM P T k)
  | 0 => ⟨fun _ _ _ _ _ _ _ h => h.elim, fun _ _ _ _ _ _ _ h => h.elim⟩
  | k + 1 => ⟨fun f d ds S Q E e ⟨d', e', l, _⟩ => by
      rw [e] at e'
      cases e'
      exact l, (runs_len P T k).1⟩
/-- what XOk asks of the names, from the link -/
theorem xok_of {k : Nat} {R RM : Rec} {X : Cx} {W : WX} {N : List Str} {scope : Scope} (L : Lk C P T G ad mg) (mR : MonoR R) (mM : MonoR RM) (lR : LenR T R) (lM : LenR T RM) (hR : OkF C G T ad mg prog w base R (k + 1)) (hM : OkF C G T ad mg prog w base RM k)
    (hp : X.prog = prog) (hw : X.w = w) (hK : X.K = C.K) (hmg : X.mg = mg) (hba : X.base = base) (hr : Room (k + 1) X.A) (hN : X.N = N) (nd : N.Nodup) (hs : X.env.scope = scope) (hk : scope.kind = .function)
    (hfn : ∀ x, X.fn x = true) (hc : X.calm = true) (tk : Takes X W) (po : PassesOwn (model X.prog X.w) X.A X.env X.xe) : XOk (G.fn N scope) C P R RM W X := by
  subst hp hw hmg hba hN hs
  have cal : ∀ f d, T f = some d → ∀ Y W', Same X Y → Takes Y W' → CallOk Y C W' (ad f) fun ds S Q E => R f ds S Q E := fun f d e Y W' sm tk' => by
    obtain ⟨fd, ps, h⟩ := L.fns f d e
    obtain ⟨s1, s2, s3, s4, s5, s6⟩ := sm
    have F := hR f d fd ps e h
    refine fn_call (k := k + 1) (s3.trans hK) ?_ (s6 ▸ hr) h.binds tk' mR fun ds S Q E z => lR f d ds S Q E e z
    rw [s1, s2, s3, s4, s5, hK]
    exact F
  refine { K := hK, N := rfl, nd := nd, scn := rfl, sck := hk, fnc := fun x _ => hfn x, calm := hc, hu := hr.units, tk := tk, po := po, F := L.F, gl := fun x g e => ?_, bn := L.bn, fld := L.fld, mnm := L.mnm, sub := L.sub, isx := L.isx, mth := fun m Y W' sm tk' c f e => ?_ }
  · have q := L.gl x g e
    cases g with
    | cst d => exact q
    | fn f =>
      obtain ⟨q1, q2, q3⟩ := q
      obtain ⟨d, e⟩ := Option.isSome_iff_exists.mp q3
      exact ⟨ad f, q1, hK ▸ q2, cal f d e⟩
    | cls c =>
      obtain ⟨q1, q2⟩ := q
      refine ⟨C.ca c, q1, hK ▸ q2, fun Y W' sm tk' => ?_⟩
      intro pins σ H s us vs ds S Q I rv rd ok hh
      obtain ⟨f, e1, z⟩ := hh
      obtain ⟨M, hT⟩ := L.ini c f e1
      obtain ⟨d, e2⟩ := Option.isSome_iff_exists.mp hT
      obtain ⟨fd, ps, h⟩ := L.fns f d e2
      obtain ⟨s1, s2, s3, s4, s5, s6⟩ := sm
      have F := hM f d fd ps e2 h
      refine mk_call (k := k) (s3.trans hK) (L.icl c f e1) M e1 ?_ (s6 ▸ hr) h.binds tk' mM (fun ds S Q E z => lM f d ds S Q E e2 z) pins σ H s us vs ds S Q I rv rd ok ⟨f, e1, z⟩
      rw [s1, s2, s3, s4, s5, hK]
      exact F
    | exc c =>
      show X.mg x = _ ∧ PySem.W.excIn X.K _ _ _ = true ∧ PySem.W.keepIn X.K _ = true ∧ PySem.W.subIn X.K _ _ = _ ∧ PySem.W.typeIn X.K _ = _
      rw [hK]
      exact q
  · obtain ⟨M, hT⟩ := L.mth c m f e
    obtain ⟨d, e2⟩ := Option.isSome_iff_exists.mp hT
    refine ⟨ad f, ?_, cal f d e2 Y W' sm tk'⟩
    rw [sm.K, hK]
    exact M
/-- the runs keep what the defs of the text do -/
theorem all_ok (L : Lk C P T G ad mg) : ∀ k, OkF C G T ad mg prog w base (run P T k) (k + 1) ∧ OkF C G T ad mg prog w base (runM P T k) k
  | 0 => ⟨okF_bot, okF_bot⟩
  | k + 1 => by
    obtain ⟨h1, h2⟩ := all_ok L k
    refine ⟨fun f d fd ps e hF => ?_, h1⟩
    obtain ⟨⟨name, qual, params, body, scope, N, n, dn, FU, FS, hN, he⟩, hnp, _⟩ := hF
    refine FU.ok FS (fun vs H Q E ⟨ds, S, hl, rv, _⟩ => by rw [rv.length, hl, hnp]) fun cdv A outer s H vs Q E hr ⟨ds, S, hl, rv, ok, h⟩ => ?_
    obtain ⟨d', e', l', q⟩ := h
    rw [e] at e'
    cases e'
    have mR := (runs_mono P T k).1
    have mM := (runs_mono P T k).2
    have tk : Takes (cxOf (L2.CX prog w) prog w C.K mg base N qual scope (ad f) cdv A outer s H E) (fun cls d _ H => E cls d H) := takes_of rfl rfl rfl rfl
    have x := xok_of (N := N) (scope := scope) L mR mM (runs_len P T k).1 (runs_len P T k).2 h1 h2 (X := cxOf (L2.CX prog w) prog w C.K mg base N qual scope (ad f) cdv A outer s H E) rfl rfl rfl rfl rfl hr rfl FS.nd rfl FS.kind (fun _ => rfl) rfl tk (passes_of rfl)
    refine ⟨LS C (fun cls d _ H => E cls d H) (wpSs P (run P T k) (runM P T k) d.body), elSs_ok mR mM (fun s ir h => elS_ok mR mM n (x.dn dn) rfl rfl s ir h) he, ?_⟩
    refine ⟨startE d.ns ds, S, start_rl rv ok hN, wpSs_mono mR mM d.body ?_ q⟩
    exact ⟨fun env' S' z σ' H' x' r' => z .non H' x' r'.2.2 .non, fun _ _ z => z, fun _ _ z => z.elim, fun _ _ z => z.elim, fun _ c S' z σ' H' x' r' => z H' x' r'.2.2⟩
end
theorem _root_.L2.FnOk.cx {P : Program} {w : World} {K : PySem.W.Frag} {mg : Str → Option Value} {base : Heap} {CX CX' : CXT} {k : Nat} {f : Addr} {fd : FuncData} {ps : List Str} {sp : Sp} (F : FnOk P w K mg base CX k f fd ps sp)
    (h : ∀ o H s E e s', CX o H s E e s' → CX' o H s E e s') : FnOk P w K mg base CX' k f fd ps sp :=
  ⟨F.len, fun A outer s H args us vs Q E hr e0 hb hv hs => codeAny_mono (F.run A outer s H args us vs Q E hr e0 hb hv hs) fun r s' q => by
    cases r with
    | error e => exact h _ _ _ _ _ _ q
    | ok fl =>
      cases fl <;> exact q⟩
def CXw (P : Program) : CXT := fun o H s E e s' => ∃ w, L2.CX P w o H s E e s'
/-- the law's end -/
theorem law_end {l : PySem.W.OpenLaw} {n k : Nat} {q : Program} {loose : List Str} {XP : (Str → Option Value) → Heap → Prop} {YP : World → Heap → Prop} {d : DefRec} {P : Prg} {T : Nat → Option FD} {x : Str} {f : Nat} {fd0 : FD}
    (hn : l.most = some n) (hn2 : n ≤ sizeLine) (hdf : d.params.defaults = []) (hr : Room (k + 1) callerA) (hT : T f = some fd0) (h1 : fd0.np = 1)
    (F : ∀ (w : World) (mg : Str → Option Value) (fa : Addr) (h : Heap), YP w h → h.Ns mainGlobals mg → mg d.name = some (.ref fa) →
      ∃ (C : Cn) (G : EC) (ad : Nat → Addr) (fd : FuncData), C.K.In h ∧ Lk C P T G ad mg ∧ ad f = fa ∧ FnL C G fa fd0 fd [x])
    (hlaw : ∀ ns : List Int, ns.length ≤ n → run P T k f [.rl (ns.map .int)] (fun _ => none) (fun v _ => v = .bl true) noX) :
    PySem.W.WalkO q loose XP YP l.row.toRowW d [] (fun f vs => PySem.call f vs) := by
  refine walk_ofE (l := l) (n := n) (k := k + 1) (CX := CXw l.prog) (x := x) hn hn2 hdf hr ?_ ?_
  · intro w mg fa h Y G' hmg
    obtain ⟨C, G, ad, fd, KX, L, e, hF⟩ := F w mg fa h Y G' hmg
    subst e
    refine ⟨C.K, fd, spR C (run P T k) fd0.np f, KX, fun s u => hF.bd s [u] rfl, fun H a ns hl hO hS => ?_, fun base _ _ => ((all_ok L k).1 f fd0 fd [x] hT hF).cx fun _ _ _ _ _ _ z => ⟨w, z⟩⟩
    have ro : RoL C.K H a (ns.map V.int) := by
      rcases hS with (h | h) | h
      · rcases hO a with z | ⟨o, xs, z⟩
        · rw [z] at h; cases h
        · rw [z] at h; cases h
      · exact .inl h
      · exact .inr h
    refine ⟨[.rl (ns.map .int)], fun _ => none, h1.symm, .cons (.rl ro RVs.ofInts) .nil, (fun a c (z : (none : Option Cell) = some c) => by cases z), (runs_mono P T k).1 _ _ _ _ _ _ _ (fun v S q => ?_) (fun _ _ z => z.elim) (hlaw ns hl)⟩
    subst q
    intro v2 H2 _ _ r2
    cases r2
    rfl
  · intro H s e s' ⟨w, _, _, _, _, _, _, _, _, _, _, _, _, z⟩
    exact z
/-! ### lists of facts -/
theorem lookup_mem {α β : Type} [BEq α] [LawfulBEq α] {x : α} {g : β} : ∀ {l : List (α × β)}, l.lookup x = some g → (x, g) ∈ l
  | [], h => by cases h
  | (y, b) :: r, h => by
    rw [List.lookup_cons] at h
    split at h
    · rename_i e
      cases h
      rw [eq_of_beq e]
      exact List.mem_cons_self
    · exact List.mem_cons_of_mem _ (lookup_mem h)
theorem alln {α : Type} {p : α → Prop} : ∀ x ∈ ([] : List α), p x := fun _ h => by cases h
theorem allc {α : Type} {p : α → Prop} {a : α} {l : List α} (h : p a) (t : ∀ x ∈ l, p x) : ∀ x ∈ a :: l, p x := fun x hx => by
  rcases List.mem_cons.mp hx with e | hx
  · rw [e]
    exact h
  · exact t x hx
/-! ### the hook: facts, defs, one Bool more -/
def hookS (n : Nat) (fa : List He.Fa) (fn : List He.DefD) (ex : PySem.W.Frag → Bool) : PySem.W.Hook where
  α := He.AlD × Bool
  obs := fun s => (He.obsDG n fa fn s.heap.get?, ex (He.frG s.heap.get? (He.asD s.heap.get? n)))
  val := fun _ => (He.valD fn, true)
  says := fun _ h => ∃ K : PySem.W.Frag, K.In h ∧ He.SaysD fa fn K ∧ ex K = true
  of := fun _ _ e => ⟨_, He.frG_in, congrArg (fun z : He.AlD × Bool => z.1) e, congrArg (fun z : He.AlD × Bool => z.2) e⟩
  keeps := fun _ _ _ ⟨K, hK, c⟩ k => ⟨K, PySem.W.Frag.In.keeps hK k, c⟩
def obS (n : Nat) (fa : List He.Fa) (fn : List He.DefD) (ex : PySem.W.Frag → Bool) (g : Addr → Option Obj) : He.AlD × Bool := (He.obsDG n fa fn g, ex (He.frG g (He.asD g n)))
theorem obS_eq {n : Nat} {fa : List He.Fa} {fn : List He.DefD} {ex : PySem.W.Frag → Bool} {g : Addr → Option Obj} {s : Shared} (h : ∀ a, g a = s.heap.get? a) : obS n fa fn ex g = (hookS n fa fn ex).obs s := by
  have e : g = s.heap.get? := funext h
  rw [e] <;> rfl
/-! classes of exceptions -/
def excB (K : PySem.W.Frag) (D : Addr) : Bool :=
  decide (PySem.W.findIn K (.ref D) "__getattribute__" = some (some (.builtin "BaseException.__getattribute__"))) && (decide (PySem.W.findIn K (.ref D) "__getattr__" = some none) && (decide (PySem.W.subIn K (.ref D) (.type "BaseException") = some true) && (PySem.W.hasDictIn K D &&
  (decide (PySem.W.findIn K (.ref D) "__class__" = some (some (.builtin "object.__class__"))) && (decide (PySem.W.specialIn K (.builtin "object.__class__") "__get__" = some (some (.builtin "getset_descriptor.__get__"))) && (decide (PySem.W.takesIn K (.builtin "object.__class__") = some true) && decide (PySem.W.mroIn K D (.type "object") = some true)))))))
theorem excB_ok {K : PySem.W.Frag} {D : Addr} (h : excB K D = true) : ExcC K D := by
  unfold excB at h
  simp only [Bool.and_eq_true, decide_eq_true_eq] at h
  obtain ⟨h1, h2, h3, h4, h5, h6, h7, h8⟩ := h
  exact ⟨h1, h2, h3, h4, h5, h6, h7, h8⟩
def exS (C : Cn) (subT : List ((Nat × Nat) × Bool)) (isxT : List ((Nat × Option Nat) × Bool)) : Bool :=
  subT.all (fun q => decide (PySem.W.exmOne C.K (.ref (C.ca q.1.1)) (.ref (C.ca q.1.2)) = some q.2)) && isxT.all fun q => excB C.K (C.ca q.1.1) && decide (PySem.W.kitOne C.K (.ref (C.ca q.1.1)) (cvU C q.1.2) = some q.2)
theorem exS_sub {C : Cn} {subT : List ((Nat × Nat) × Bool)} {isxT : List ((Nat × Option Nat) × Bool)} (h : exS C subT isxT = true) (c' c : Nat) (b : Bool) (e : subT.lookup (c', c) = some b) : PySem.W.exmOne C.K (.ref (C.ca c')) (.ref (C.ca c)) = some b := by
  unfold exS at h
  rw [Bool.and_eq_true, List.all_eq_true] at h
  exact of_decide_eq_true (h.1 _ (lookup_mem e))
theorem exS_isx {C : Cn} {subT : List ((Nat × Nat) × Bool)} {isxT : List ((Nat × Option Nat) × Bool)} (h : exS C subT isxT = true) (c' : Nat) (oc : Option Nat) (b : Bool) (e : isxT.lookup (c', oc) = some b) : ExcC C.K (C.ca c') ∧ PySem.W.kitOne C.K (.ref (C.ca c')) (cvU C oc) = some b := by
  unfold exS at h
  rw [Bool.and_eq_true, List.all_eq_true, List.all_eq_true] at h
  have z := h.2 _ (lookup_mem e)
  rw [Bool.and_eq_true, decide_eq_true_eq] at z
  exact ⟨excB_ok z.1, z.2⟩
end SW
/-! SW, part P: what a proof about a run uses. -/
namespace SW
open PySem L2
/-! ### stores that keep -/
structure Kp (W : List Addr) (S S' : Store) : Prop where
  keep : ∀ p c, p ∉ W → S p = some c → S' p = some c
  dom : ∀ p, S' p = none → S p = none
theorem Kp.refl {W : List Addr} {S : Store} : Kp W S S := ⟨fun _ _ _ h => h, fun _ h => h⟩
theorem Kp.step {W W' : List Addr} {S S1 S2 : Store} (a : Kp W S S1) (b : Kp W' S1 S2) (h : ∀ x ∈ W', x ∈ W ∨ S x = none) : Kp W S S2 :=
  ⟨fun p c hp e => b.keep p c (fun hm => by
    rcases h p hm with z | z
    · exact hp z
    · rw [z] at e; cases e) (a.keep p c hp e), fun p e => a.dom p (b.dom p e)⟩
theorem Kp.is {W : List Addr} {S S' : Store} {x : Addr} (k : Kp W S S') (e : S x ≠ none) : S' x ≠ none := fun z => e (k.dom _ z)
theorem nm0 {x : Addr} : x ∉ ([] : List Addr) := List.not_mem_nil
/-! ### steps -/
theorem seq_ref {S : Store} {a : Addr} {xs : List D} (h : S a = some (.lst xs)) : seqOf S (.ref a) = some xs := by
  simp only [seqOf, h]
theorem eqv_bool (i j : Bool) : PyData.eqv (.bool i) (.bool j) = (i == j) := by
  cases i <;> cases j <;> rfl
theorem lenOk' {n : Nat} (h : n < 1000000) : n < sizeLine := Nat.lt_of_lt_of_le h (by decide)
/-! ### loops -/
section
variable {P : Prg} {T : Nat → Option FD} {j : Nat}
end
/-! ### texts by their signs -/
def tx (l : List Nat) : Str := ⟨l.toArray⟩
/-! ### lists as plain data -/
theorem pds {f : D → PyData} {m : Nat} {S : Store} : ∀ (xs : List D) (n : Nat), (∀ x ∈ xs, ∀ k, m ≤ k → toPD k S x = some (f x)) → m + xs.length ≤ n → toPDs n S xs = some (xs.map f)
  | [], n, _, _ => by cases n <;> rfl
  | x :: xs, 0, _, h => by rw [List.length_cons] at h; omega
  | x :: xs, n + 1, hx, h => by
    rw [List.length_cons] at h
    have e1 := hx x List.mem_cons_self n (by omega)
    have e2 := pds xs n (fun y hy => hx y (List.mem_cons_of_mem _ hy)) (by omega)
    simp only [toPDs, e1, e2]
    rfl
/-! ### words in tuples of words -/
theorem kd_lst {S : Store} {a : Addr} {xs : List D} (h : S a = some (.lst xs)) : kdOf S (.ref a) = some .lst := by
  simp only [kdOf, Store.rd, h]
  rfl
end SW
/-! SW, part Q: separate parts of a store. -/
namespace SW
open PySem L2
abbrev HP := Store → Prop
def Le (h S : Store) : Prop := ∀ a c, h a = some c → S a = some c
def Dj (h h' : Store) : Prop := ∀ a, h a = none ∨ h' a = none
/-- the store has these parts, no two of which share a cell -/
def Sep : List HP → HP
  | [], _ => True
  | A :: L, S => ∃ h h', Dj h h' ∧ Le h S ∧ Le h' S ∧ A h ∧ Sep L h'
def Cl (a : Addr) (c : Cell) : HP := fun h => h a = some c
abbrev Ls (a : Addr) (xs : List D) : HP := Cl a (.lst xs)
abbrev Dc (a : Addr) (xs : List (D × D)) : HP := Cl a (.dic xs)
theorem Le.refl {h : Store} : Le h h := fun _ _ e => e
theorem Le.trans {a b c : Store} (x : Le a b) (y : Le b c) : Le a c := fun p d e => y p d (x p d e)
theorem Dj.symm {h h' : Store} (d : Dj h h') : Dj h' h := fun a => (d a).symm
theorem Dj.le {h h' k k' : Store} (d : Dj h h') (l : Le k h) (l' : Le k' h') : Dj k k' := fun a => by
  rcases d a with z | z
  · left
    cases q : k a with
    | none => rfl
    | some c => rw [l a c q] at z; cases z
  · right
    cases q : k' a with
    | none => rfl
    | some c => rw [l' a c q] at z; cases z
theorem Sep.le {L : List HP} {S S' : Store} (h : Sep L S) (l : Le S S') : Sep L S' := by
  cases L with
  | nil => trivial
  | cons A L =>
    obtain ⟨h1, h2, d, l1, l2, a, r⟩ := h
    exact ⟨h1, h2, d, l1.trans l, l2.trans l, a, r⟩
theorem Sep.nil {S : Store} : Sep [] S := trivial
theorem Sep.tail {A : HP} {L : List HP} {S : Store} (h : Sep (A :: L) S) : Sep L S := by
  obtain ⟨h1, h2, _, _, l2, _, r⟩ := h
  exact r.le l2
/-- two stores put together: the first one goes first -/
def mix (h k : Store) : Store := fun a => match h a with
  | some c => some c
  | none => k a
theorem mix_l {h k : Store} : Le h (mix h k) := fun a c e => by simp only [mix, e]
theorem mix_r {h k : Store} (d : Dj h k) : Le k (mix h k) := fun a c e => by
  rcases d a with z | z
  · simp only [mix, z, e]
  · rw [z] at e; cases e
theorem mix_le {h k S : Store} (l : Le h S) (l' : Le k S) : Le (mix h k) S := fun a c e => by
  unfold mix at e
  cases q : h a with
  | none => rw [q] at e; exact l' a c e
  | some d => rw [q] at e; cases e; exact l a _ q
theorem mix_dj {h k j : Store} (d : Dj h j) (d' : Dj k j) : Dj (mix h k) j := fun a => by
  rcases d a with z | z
  · rcases d' a with y | y
    · left; simp only [mix, z, y]
    · exact .inr y
  · exact .inr z
theorem Sep.swap {A B : HP} {L : List HP} {S : Store} (h : Sep (A :: B :: L) S) : Sep (B :: A :: L) S := by
  obtain ⟨h1, h2, d, l1, l2, a, k1, k2, e, m1, m2, b, r⟩ := h
  have d1 : Dj h1 k2 := d.le .refl m2
  have d2 : Dj h1 k1 := d.le .refl m1
  exact ⟨k1, mix h1 k2, (mix_dj d2 e.symm).symm, m1.trans l2, mix_le l1 (m2.trans l2), b, h1, k2, d1, mix_l, mix_r d1, a, r⟩
theorem Sep.under {A : HP} {L L' : List HP} {S : Store} (f : ∀ S, Sep L S → Sep L' S) (h : Sep (A :: L) S) : Sep (A :: L') S := by
  obtain ⟨h1, h2, d, l1, l2, a, r⟩ := h
  exact ⟨h1, h2, d, l1, l2, a, f _ r⟩
theorem Sep.perm {L L' : List HP} (p : L.Perm L') : ∀ {S : Store}, Sep L S → Sep L' S := by
  induction p with
  | nil => exact fun h => h
  | cons A p ih => exact fun h => h.under fun _ => ih
  | swap A B L => exact fun h => h.swap
  | trans _ _ ih1 ih2 => exact fun h => ih2 (ih1 h)
theorem Sep.imp {A B : HP} {L : List HP} {S : Store} (f : ∀ h, A h → B h) (h : Sep (A :: L) S) : Sep (B :: L) S := by
  obtain ⟨h1, h2, d, l1, l2, a, r⟩ := h
  exact ⟨h1, h2, d, l1, l2, f _ a, r⟩
theorem Sep.ex {α : Sort _} {A : α → HP} {L : List HP} {S : Store} (h : Sep ((fun s => ∃ x, A x s) :: L) S) : ∃ x, Sep (A x :: L) S := by
  obtain ⟨h1, h2, d, l1, l2, ⟨x, a⟩, r⟩ := h
  exact ⟨x, h1, h2, d, l1, l2, a, r⟩
theorem Sep.pure {p : Prop} {A : HP} {L : List HP} {S : Store} (h : Sep ((fun s => p ∧ A s) :: L) S) : p ∧ Sep (A :: L) S := by
  obtain ⟨h1, h2, d, l1, l2, ⟨x, a⟩, r⟩ := h
  exact ⟨x, h1, h2, d, l1, l2, a, r⟩
theorem Sep.into {A : HP} {L : List HP} {S : Store} {B : HP} (f : ∀ h, A h → B h) (h : Sep (A :: L) S) : Sep (B :: L) S := h.imp f
/-- a part that is itself of parts -/
theorem Sep.flat {L1 L2 : List HP} {S : Store} (h : Sep (Sep L1 :: L2) S) : Sep (L1 ++ L2) S := by
  induction L1 generalizing S with
  | nil => exact h.tail
  | cons A L1 ih =>
    obtain ⟨h1, h2, d, l1, l2, ⟨k1, k2, e, m1, m2, a, r⟩, t⟩ := h
    have d1 : Dj k1 h2 := d.le m1 .refl
    have d2 : Dj k2 h2 := d.le m2 .refl
    have q : Sep (L1 ++ L2) (mix k2 h2) := ih ⟨k2, h2, d2, mix_l, mix_r d2, r, t⟩
    exact ⟨k1, mix k2 h2, (mix_dj e.symm d1.symm).symm, m1.trans l1, mix_le (m2.trans l1) l2, a, q⟩
theorem Sep.fold {L1 L2 : List HP} {S : Store} (h : Sep (L1 ++ L2) S) : Sep (Sep L1 :: L2) S := by
  induction L1 generalizing S with
  | nil => exact ⟨fun _ => none, S, fun _ => .inl rfl, fun _ _ e => (by cases e), .refl, trivial, h⟩
  | cons A L1 ih =>
    obtain ⟨h1, h2, d, l1, l2, a, r⟩ := h
    obtain ⟨k1, k2, e, m1, m2, x, y⟩ := ih r
    have d1 : Dj h1 k1 := d.le .refl m1
    have d2 : Dj h1 k2 := d.le .refl m2
    exact ⟨mix h1 k1, k2, mix_dj d2 e, mix_le l1 (m1.trans l2), m2.trans l2, ⟨h1, k1, d1, mix_l, mix_r d1, a, x⟩, y⟩
theorem Sep.get {a : Addr} {c : Cell} {L : List HP} {S : Store} (h : Sep (Cl a c :: L) S) : S a = some c := by
  obtain ⟨h1, h2, d, l1, l2, e, r⟩ := h
  exact l1 _ _ e
theorem Sep.new {L : List HP} {S : Store} {p : Addr} {c : Cell} (h : Sep L S) (hp : S p = none) : Sep (Cl p c :: L) (S.upd p c) := by
  refine ⟨fun a => if a = p then some c else none, S, fun a => ?_, fun a d e => ?_, fun a d e => ?_, ?_, h⟩
  · by_cases q : a = p
    · right; rw [q]; exact hp
    · left; simp only [q, if_false]
  · by_cases q : a = p
    · simp only [q, if_true] at e
      rw [q, Store.upd_same]; exact e
    · simp only [q, if_false] at e; cases e
  · rw [Store.upd_ne (fun z => by rw [z, hp] at e; cases e)]; exact e
  · show (if p = p then some c else none) = some c
    rw [if_pos rfl]
theorem Sep.put {L : List HP} {S : Store} {a : Addr} {c c' : Cell} (h : Sep (Cl a c :: L) S) : Sep (Cl a c' :: L) (S.upd a c') := by
  obtain ⟨h1, h2, d, l1, l2, e, r⟩ := h
  have e : h1 a = some c := e
  have n2 : h2 a = none := by
    rcases d a with z | z
    · rw [z] at e; cases e
    · exact z
  refine ⟨fun b => if b = a then some c' else none, h2, fun b => ?_, fun b d e => ?_, fun b d e => ?_, ?_, r⟩
  · by_cases q : b = a
    · right; rw [q]; exact n2
    · left; simp only [q, if_false]
  · by_cases q : b = a
    · simp only [q, if_true] at e
      rw [q, Store.upd_same]; exact e
    · simp only [q, if_false] at e; cases e
  · rw [Store.upd_ne (fun z => by rw [z, n2] at e; cases e)]; exact l2 _ _ e
  · show (if a = a then some c' else none) = some c'
    rw [if_pos rfl]
/-! Kp and parts -/
theorem Sep.kp {L : List HP} {S S' : Store} (h : Sep L S) (k : Kp [] S S') : Sep L S' := h.le fun a c e => k.keep a c nm0 e
/-! picking -/
theorem pkS {A B : HP} {L L' : List HP} (h : L.Perm (A :: L')) : (B :: L).Perm (A :: B :: L') := (h.cons B).trans (.swap _ _ _)
/-- A stands in L, R is the rest -/
inductive Pick (A : HP) : List HP → List HP → Prop
  | here {L : List HP} : Pick A (A :: L) L
  | there {B : HP} {L R : List HP} : Pick A L R → Pick A (B :: L) (B :: R)
theorem Pick.perm {A : HP} {L R : List HP} (h : Pick A L R) : L.Perm (A :: R) := by
  induction h with
  | here => exact .refl _
  | there _ ih => exact pkS ih
theorem Sep.c1 {A : HP} {L R : List HP} {S : Store} (h : Sep L S) (p : Pick A L R) : Sep (A :: R) S := h.perm p.perm
theorem Sep.c2 {A B : HP} {L R R' : List HP} {S : Store} (h : Sep L S) (p : Pick A L R) (q : Pick B R R') : Sep (A :: B :: R') S := h.perm (p.perm.trans (q.perm.cons A))
theorem Sep.c3 {A B C : HP} {L R R' R2 : List HP} {S : Store} (h : Sep L S) (p : Pick A L R) (q : Pick B R R') (r : Pick C R' R2) : Sep (A :: B :: C :: R2) S := h.perm (p.perm.trans ((q.perm.trans (r.perm.cons B)).cons A))
theorem Sep.c4 {A B C E : HP} {L R R' R2 R3 : List HP} {S : Store} (h : Sep L S) (p : Pick A L R) (q : Pick B R R') (r : Pick C R' R2) (s : Pick E R2 R3) : Sep (A :: B :: C :: E :: R3) S := h.perm (p.perm.trans ((q.perm.trans ((r.perm.trans (s.perm.cons C)).cons B)).cons A))
/-- what has L has L' -/
def Sb (L' L : List HP) : Prop := ∀ S, Sep L S → Sep L' S
theorem Sb.refl {L : List HP} : Sb L L := fun _ h => h
theorem Sb.nil {L : List HP} : Sb [] L := fun _ _ => trivial
theorem Sb.drop {A : HP} {L L' : List HP} (h : Sb L' L) : Sb L' (A :: L) := fun S z => h S z.tail
theorem Sb.cons {A : HP} {L R T : List HP} (p : Pick A L R) (h : Sb T R) : Sb (A :: T) L := fun S z => Sep.under (fun S => h S) (z.c1 p)
theorem Sep.sb {L L' : List HP} {S : Store} (h : Sep L S) (s : Sb L' L) : Sep L' S := s S h
/-! ### plain data -/
mutual
def pdD : D → PyData
  | .int i => .int i
  | .bl b => .bool b
  | .str s => .str s
  | .tup xs => .tuple (pdDs xs)
  | _ => .none
def pdDs : List D → List PyData
  | [] => []
  | x :: xs => pdD x :: pdDs xs
end
mutual
/-- plain: numbers, texts, None, tuples of these, to a depth; no truths -/
def plD : Nat → D → Bool
  | _, .int _ => true
  | _, .non => true
  | _, .str s => (PyData.str s).canLay0
  | n + 1, .tup xs => plDs n xs
  | _, _ => false
def plDs : Nat → List D → Bool
  | _, [] => true
  | n, x :: xs => plD n x && plDs n xs
end
mutual
theorem pl_eqv : ∀ (x : D) (n m : Nat) (y : D), plD n x = true → plD m y = true → (PyData.eqv (pdD x) (pdD y) = true ↔ x = y)
  | .int i, n, m, y, h, k => by
    cases y <;> simp only [plD, pdD, PyData.eqv, beq_iff_eq, D.int.injEq, reduceCtorEq, Bool.false_eq_true] at k ⊢
  | .non, n, m, y, h, k => by
    cases y <;> simp only [plD, pdD, PyData.eqv, reduceCtorEq, Bool.false_eq_true] at k ⊢
  | .str s, n, m, y, h, k => by
    cases y <;> simp only [plD, pdD, PyData.eqv, beq_iff_eq, D.str.injEq, reduceCtorEq, Bool.false_eq_true] at k ⊢
  | .tup xs, 0, m, y, h, k => by simp only [plD, Bool.false_eq_true] at h
  | .tup xs, n + 1, m, y, h, k => by
    cases y with
    | tup ys =>
      cases m with
      | zero => simp only [plD, Bool.false_eq_true] at k
      | succ m =>
        simp only [plD] at h k
        simp only [pdD, PyData.eqv, D.tup.injEq]
        exact pls_eqv xs n m ys h k
    | bl b => cases m <;> simp only [plD, Bool.false_eq_true] at k
    | ref b => cases m <;> simp only [plD, Bool.false_eq_true] at k
    | rl b => cases m <;> simp only [plD, Bool.false_eq_true] at k
    | _ => simp only [pdD, PyData.eqv, reduceCtorEq, Bool.false_eq_true]
  | .bl b, n, m, y, h, k => by cases n <;> simp only [plD, Bool.false_eq_true] at h
  | .ref b, n, m, y, h, k => by cases n <;> simp only [plD, Bool.false_eq_true] at h
  | .rl b, n, m, y, h, k => by cases n <;> simp only [plD, Bool.false_eq_true] at h
theorem pls_eqv : ∀ (xs : List D) (n m : Nat) (ys : List D), plDs n xs = true → plDs m ys = true → (PyData.eqvAll (pdDs xs) (pdDs ys) = true ↔ xs = ys)
  | [], n, m, ys, h, k => by
    cases ys <;> simp only [pdDs, PyData.eqvAll, reduceCtorEq, Bool.false_eq_true]
  | x :: xs, n, m, ys, h, k => by
    cases ys with
    | nil => simp only [pdDs, PyData.eqvAll, reduceCtorEq, Bool.false_eq_true]
    | cons y ys =>
      simp only [plDs, Bool.and_eq_true] at h k
      simp only [pdDs, PyData.eqvAll, Bool.and_eq_true, List.cons.injEq]
      rw [pl_eqv x n m y h.1 k.1, pls_eqv xs n m ys h.2 k.2]
end
noncomputable instance decD : DecidableEq D := fun _ _ => Classical.propDecidable _
theorem eqv_pl {x y : D} {n m : Nat} (h : plD n x = true) (k : plD m y = true) : PyData.eqv (pdD x) (pdD y) = decide (x = y) := by
  rw [Bool.eq_iff_iff, decide_eq_true_eq]
  exact pl_eqv x n m y h k
theorem eqvs_pl {x y : List D} {n m : Nat} (h : plDs n x = true) (k : plDs m y = true) : PyData.eqvAll (pdDs x) (pdDs y) = decide (x = y) := by
  rw [Bool.eq_iff_iff, decide_eq_true_eq]
  exact pls_eqv x n m y h k
mutual
theorem pl_lay : ∀ (x : D) (n : Nat), plD n x = true → (pdD x).canLay0 = true ∧ (pdD x).depth ≤ n
  | .int i, n, h => ⟨rfl, Nat.zero_le _⟩
  | .non, n, h => ⟨rfl, Nat.zero_le _⟩
  | .str s, n, h => by
    refine ⟨?_, Nat.zero_le _⟩
    cases n <;> exact h
  | .tup xs, 0, h => by simp only [plD, Bool.false_eq_true] at h
  | .tup xs, n + 1, h => by
    simp only [plD] at h
    obtain ⟨a, b⟩ := pls_lay xs n h
    simp only [pdD, PyData.canLay0, PyData.depth]
    exact ⟨a, by omega⟩
  | .bl b, n, h => by cases n <;> simp only [plD, Bool.false_eq_true] at h
  | .ref b, n, h => by cases n <;> simp only [plD, Bool.false_eq_true] at h
  | .rl b, n, h => by cases n <;> simp only [plD, Bool.false_eq_true] at h
theorem pls_lay : ∀ (xs : List D) (n : Nat), plDs n xs = true → PyData.canLayAll0 (pdDs xs) = true ∧ PyData.depthAll (pdDs xs) ≤ n
  | [], n, h => ⟨rfl, Nat.zero_le _⟩
  | x :: xs, n, h => by
    simp only [plDs, Bool.and_eq_true] at h
    obtain ⟨a, b⟩ := pl_lay x n h.1
    obtain ⟨c, d⟩ := pls_lay xs n h.2
    simp only [pdDs, PyData.canLayAll0, PyData.depthAll, a, c]
    exact ⟨rfl, by omega⟩
end
/-- a thing reads as data -/
def Pd (S : Store) (x : D) (p : PyData) : Prop := (∃ N, ∀ n, N ≤ n → toPD n S x = some p) ∧ SeqAt.shaped p = true
def Pds (S : Store) (xs : List D) (ps : List PyData) : Prop := ∃ N, ∀ n, N ≤ n → toPDs n S xs = some ps
theorem pds_nil {S : Store} : Pds S [] [] := ⟨0, fun n _ => by cases n <;> rfl⟩
theorem pds_cons {S : Store} {x : D} {xs : List D} {p : PyData} {ps : List PyData} (h : ∃ N, ∀ n, N ≤ n → toPD n S x = some p) (t : Pds S xs ps) : Pds S (x :: xs) (p :: ps) := by
  obtain ⟨N, h⟩ := h
  obtain ⟨M, t⟩ := t
  refine ⟨N + M + 1, fun n hn => ?_⟩
  cases n with
  | zero => omega
  | succ n => simp only [toPDs, h n (by omega), t n (by omega)]
theorem pd_tup {S : Store} {xs : List D} {ps : List PyData} (t : Pds S xs ps) : ∃ N, ∀ n, N ≤ n → toPD n S (.tup xs) = some (.tuple ps) := by
  obtain ⟨N, t⟩ := t
  refine ⟨N + 1, fun n hn => ?_⟩
  cases n with
  | zero => omega
  | succ n => simp only [toPD, t n (by omega)]; rfl
theorem pd_ref {S : Store} {a : Addr} {xs : List D} {ps : List PyData} (e : S a = some (.lst xs)) (t : Pds S xs ps) : ∃ N, ∀ n, N ≤ n → toPD n S (.ref a) = some (.list ps) := by
  obtain ⟨N, t⟩ := t
  refine ⟨N + 1, fun n hn => ?_⟩
  cases n with
  | zero => omega
  | succ n => simp only [toPD, e, t n (by omega)]; rfl
theorem pd_at {S : Store} {x : D} {p : PyData} (h : ∀ n, toPD (n + 1) S x = some p) : ∃ N, ∀ n, N ≤ n → toPD n S x = some p := ⟨1, fun n hn => by
  cases n with
  | zero => omega
  | succ n => exact h n⟩
mutual
theorem pl_toPD : ∀ (x : D) (n : Nat) (S : Store), plD n x = true → ∃ N, ∀ k, N ≤ k → toPD k S x = some (pdD x)
  | .int i, n, S, h => pd_at fun _ => rfl
  | .non, n, S, h => pd_at fun _ => rfl
  | .str s, n, S, h => pd_at fun _ => rfl
  | .tup xs, 0, S, h => by simp only [plD, Bool.false_eq_true] at h
  | .tup xs, n + 1, S, h => by
    simp only [plD] at h
    exact pd_tup (pls_toPDs xs n S h)
  | .bl b, n, S, h => by cases n <;> simp only [plD, Bool.false_eq_true] at h
  | .ref b, n, S, h => by cases n <;> simp only [plD, Bool.false_eq_true] at h
  | .rl b, n, S, h => by cases n <;> simp only [plD, Bool.false_eq_true] at h
theorem pls_toPDs : ∀ (xs : List D) (n : Nat) (S : Store), plDs n xs = true → Pds S xs (pdDs xs)
  | [], n, S, h => pds_nil
  | x :: xs, n, S, h => by
    simp only [plDs, Bool.and_eq_true] at h
    exact pds_cons (pl_toPD x n S h.1) (pls_toPDs xs n S h.2)
end
theorem Pd.pl {S : Store} {x : D} {n : Nat} (hn : n ≤ 60) (h : plD n x = true) : Pd S x (pdD x) := by
  refine ⟨pl_toPD x n S h, ?_⟩
  obtain ⟨a, b⟩ := pl_lay x n h
  unfold SeqAt.shaped
  rw [a, decide_eq_true (by omega)]
  rfl
theorem Pd.ls {S : Store} {a : Addr} {xs : List D} {n : Nat} (hn : n ≤ 60) (e : S a = some (.lst xs)) (h : plDs n xs = true) : Pd S (.ref a) (.list (pdDs xs)) := by
  refine ⟨pd_ref e (pls_toPDs xs n S h), ?_⟩
  obtain ⟨a, b⟩ := pls_lay xs n h
  unfold SeqAt.shaped
  rw [Bool.and_eq_true, decide_eq_true_eq]
  simp only [PyData.canLay0, PyData.depth]
  exact ⟨a, by omega⟩
theorem w_pd {S : Store} {x y : D} {p q : PyData} {Q : PyData → PyData → Prop} (h : Pd S x p) (k : Pd S y q) (z : Q p q) :
    ∃ n p q, toPD n S x = some p ∧ toPD n S y = some q ∧ SeqAt.shaped p = true ∧ SeqAt.shaped q = true ∧ Q p q := by
  obtain ⟨⟨N, h⟩, h'⟩ := h
  obtain ⟨⟨M, k⟩, k'⟩ := k
  exact ⟨N + M, p, q, h _ (by omega), k _ (by omega), h', k', z⟩
/-- x == y of plain things -/
theorem w_eqp {S : Store} {x y : D} {n m : Nat} {Q : Bool → Prop} (hn : n ≤ 60) (hm : m ≤ 60) (h : plD n x = true) (k : plD m y = true) (z : Q (decide (x = y))) : wpEq x y S Q := by
  have g : ∃ n p q, toPD n S x = some p ∧ toPD n S y = some q ∧ SeqAt.shaped p = true ∧ SeqAt.shaped q = true ∧ Q (PyData.eqv p q) := w_pd (.pl hn h) (.pl hm k) (by rw [eqv_pl h k]; exact z)
  cases x <;> cases y <;> first
    | exact g
    | (show Q _; simp only [D.str.injEq] at z; exact z)
/-- two lists of plain things -/
theorem w_eql {S : Store} {a b : Addr} {xs ys : List D} {n m : Nat} {Q : Bool → Prop} (ea : S a = some (.lst xs)) (eb : S b = some (.lst ys)) (hn : n ≤ 60) (hm : m ≤ 60) (h : plDs n xs = true) (k : plDs m ys = true) (z : Q (decide (xs = ys))) :
    ∃ n p q, toPD n S (.ref a) = some p ∧ toPD n S (.ref b) = some q ∧ SeqAt.shaped p = true ∧ SeqAt.shaped q = true ∧ Q (PyData.eqv p q) := w_pd (.ls hn ea h) (.ls hm eb k) (by
  have e : PyData.eqv (.list (pdDs xs)) (.list (pdDs ys)) = PyData.eqvAll (pdDs xs) (pdDs ys) := by simp only [PyData.eqv]
  rw [e, eqvs_pl h k]; exact z)
theorem plDs_all {n : Nat} : ∀ {xs : List D}, (∀ x ∈ xs, plD n x = true) → plDs n xs = true
  | [], _ => rfl
  | x :: xs, h => by
    simp only [plDs, Bool.and_eq_true]
    exact ⟨h x List.mem_cons_self, plDs_all fun y hy => h y (List.mem_cons_of_mem _ hy)⟩
theorem plDs_map {α : Type} {f : α → D} {n : Nat} {xs : List α} (h : ∀ x ∈ xs, plD n (f x) = true) : plDs n (xs.map f) = true := plDs_all fun y hy => by
  obtain ⟨x, hx, e⟩ := List.mem_map.mp hy
  rw [← e]
  exact h x hx
end SW
/-! SW, part R: loops and comprehensions over parts. -/
namespace SW
open PySem L2
section
variable {P : Prg} {T : Nat → Option FD} {j : Nat}
end
/-! a cell of which something is known -/
def Own (a : Addr) (P : Cell → Prop) : HP := fun h => ∃ c, h a = some c ∧ P c
theorem Sep.own {L : List HP} {S : Store} {a : Addr} {P : Cell → Prop} (h : Sep (Own a P :: L) S) : ∃ c, P c ∧ Sep (Cl a c :: L) S := by
  obtain ⟨h1, h2, d, l1, l2, ⟨c, e, z⟩, r⟩ := h
  exact ⟨c, z, h1, h2, d, l1, l2, e, r⟩
section
variable {P : Prg} {T : Nat → Option FD} {j : Nat}
end
section
variable {P : Prg} {T : Nat → Option FD} {j : Nat}
end
section
variable {P : Prg} {T : Nat → Option FD} {j : Nat}
end
end SW
namespace SW
open PySem L2
theorem ints_of : ∀ xs : List Int, intsOf (xs.map .int) = some xs
  | [] => rfl
  | x :: xs => by
    show (intsOf (xs.map .int)).map (x :: ·) = _
    rw [ints_of xs]
    rfl
theorem nodup_get {α : Type} {l : List α} (h : l.Nodup) {i j : Nat} {x y : α} (e1 : l[i]? = some x) (e2 : l[j]? = some y) (n : i ≠ j) : x ≠ y := by
  obtain ⟨hi, rfl⟩ := List.getElem?_eq_some_iff.mp e1
  obtain ⟨hj, rfl⟩ := List.getElem?_eq_some_iff.mp e2
  intro e
  rcases Nat.lt_or_gt_of_ne n with q | q
  · exact (List.pairwise_iff_getElem.mp h) i j hi hj q e
  · exact (List.pairwise_iff_getElem.mp h) j i hj hi q e.symm
end SW
namespace SW
open PySem L2
end SW
namespace SW
open PySem L2
def sortI (l : List Int) : List Int := l.mergeSort fun a b => decide (a ≤ b)
theorem sortI_perm (l : List Int) : (sortI l).Perm l := List.mergeSort_perm l _
theorem sortI_sorted (l : List Int) : (sortI l).Pairwise (· ≤ ·) := by
  have h := List.pairwise_mergeSort (le := fun a b : Int => decide (a ≤ b)) (fun a b c h1 h2 => by simp only [decide_eq_true_eq] at *; omega) (fun a b => by simp only [Bool.or_eq_true, decide_eq_true_eq]; omega) l
  exact h.imp fun h => of_decide_eq_true h
theorem sortI_eq {l m : List Int} (p : m.Perm l) (h : m.Pairwise (· ≤ ·)) : m = sortI l := PySem.W.ksm_same (p.trans (sortI_perm l).symm) h (sortI_sorted l)
end SW
namespace SW
open PySem L2
end SW
namespace SW
open PySem L2
/-- reads as data of a depth -/
def Pdn (m : Nat) (S : Store) (x : D) (p : PyData) : Prop := (∃ N, ∀ n, N ≤ n → toPD n S x = some p) ∧ p.canLay0 = true ∧ p.depth ≤ m
theorem Pdn.pd {m : Nat} {S : Store} {x : D} {p : PyData} (h : Pdn m S x p) (hm : m ≤ 64) : Pd S x p := by
  refine ⟨h.1, ?_⟩
  unfold SeqAt.shaped
  rw [Bool.and_eq_true, decide_eq_true_eq]
  exact ⟨h.2.1, Nat.le_trans h.2.2 hm⟩
theorem Pdn.pl {n : Nat} {S : Store} {x : D} (h : plD n x = true) : Pdn n S x (pdD x) := ⟨pl_toPD x n S h, pl_lay x n h⟩
theorem Pdn.ls {n : Nat} {S : Store} {a : Addr} {xs : List D} (e : S a = some (.lst xs)) (h : plDs n xs = true) : Pdn (n + 1) S (.ref a) (.list (pdDs xs)) := by
  obtain ⟨a, b⟩ := pls_lay xs n h
  refine ⟨pd_ref e (pls_toPDs xs n S h), ?_, ?_⟩
  · simp only [PyData.canLay0]; exact a
  · simp only [PyData.depth]; omega
def Pdsn (m : Nat) (S : Store) (xs : List D) (ps : List PyData) : Prop := Pds S xs ps ∧ PyData.canLayAll0 ps = true ∧ PyData.depthAll ps ≤ m
theorem Pdsn.nil {m : Nat} {S : Store} : Pdsn m S [] [] := ⟨pds_nil, rfl, Nat.zero_le _⟩
theorem Pdsn.cons {m : Nat} {S : Store} {x : D} {xs : List D} {p : PyData} {ps : List PyData} (h : Pdn m S x p) (t : Pdsn m S xs ps) : Pdsn m S (x :: xs) (p :: ps) := by
  refine ⟨pds_cons h.1 t.1, ?_, ?_⟩
  · simp only [PyData.canLayAll0, h.2.1, t.2.1]; rfl
  · have a := h.2.2
    have b := t.2.2
    simp only [PyData.depthAll]; omega
theorem Pdsn.ref {m : Nat} {S : Store} {a : Addr} {xs : List D} {ps : List PyData} (e : S a = some (.lst xs)) (t : Pdsn m S xs ps) : Pdn (m + 1) S (.ref a) (.list ps) := by
  refine ⟨pd_ref e t.1, ?_, ?_⟩
  · simp only [PyData.canLay0]; exact t.2.1
  · have b := t.2.2
    simp only [PyData.depth]; omega
theorem Pdsn.tup {m : Nat} {S : Store} {xs : List D} {ps : List PyData} (t : Pdsn m S xs ps) : Pdn (m + 1) S (.tup xs) (.tuple ps) := by
  refine ⟨pd_tup t.1, ?_, ?_⟩
  · simp only [PyData.canLay0]; exact t.2.1
  · have b := t.2.2
    simp only [PyData.depth]; omega
theorem Pdn.refl {m : Nat} {S : Store} {x : D} {p : PyData} (h : Pdn m S x p) : PyData.eqv p p = true := SeqAt.eqv_refl p h.2.1
theorem Pdn.le {m m' : Nat} {S : Store} {x : D} {p : PyData} (h : Pdn m S x p) (l : m ≤ m') : Pdn m' S x p := ⟨h.1, h.2.1, Nat.le_trans h.2.2 l⟩
end SW
namespace SW
open PySem L2
theorem seqRef_ref {S : Store} {a : Addr} {xs : List D} (h : S a = some (.lst xs)) : seqRef S (.ref a) = some xs := by
  simp only [seqRef, h]
end SW
namespace SW
open PySem L2
end SW
namespace SW
open PySem L2
end SW
/-! ### dicts by numbers -/
namespace SW
open PySem L2
def kv {α : Type} (f : α → D) (l : List (Int × α)) : List (D × D) := l.map fun x => (D.int x.1, f x.2)
def lk {α : Type} : List (Int × α) → Int → Option α
  | [], _ => none
  | x :: r, p => if x.1 = p then some x.2 else lk r p
def pt {α : Type} : List (Int × α) → Int → α → List (Int × α)
  | [], p, v => [(p, v)]
  | x :: r, p, v => if x.1 = p then (x.1, v) :: r else x :: pt r p v
theorem pt_cons {α : Type} (x : Int × α) (r : List (Int × α)) (p : Int) (v : α) : pt (x :: r) p v = if x.1 = p then (x.1, v) :: r else x :: pt r p v := rfl
def dl {α : Type} (l : List (Int × α)) (p : Int) : List (Int × α) := l.filter fun x => decide (x.1 ≠ p)
def KN {α : Type} (l : List (Int × α)) : Prop := (l.map (·.1)).Nodup
theorem pt_keys {α : Type} {l : List (Int × α)} {p : Int} {v : α} : (pt l p v).map (·.1) = if p ∈ l.map (·.1) then l.map (·.1) else l.map (·.1) ++ [p] := by
  induction l with
  | nil => rfl
  | cons x r ih =>
    rw [pt_cons]
    by_cases h : x.1 = p
    · rw [if_pos h, if_pos (by rw [List.map_cons, h]; exact List.mem_cons_self)]; rfl
    · rw [if_neg h, List.map_cons, ih]
      by_cases m : p ∈ r.map (·.1)
      · rw [if_pos m, if_pos (by rw [List.map_cons]; exact List.mem_cons_of_mem _ m)]; rfl
      · rw [if_neg m, if_neg fun z => by
          rw [List.map_cons] at z
          rcases List.mem_cons.mp z with z | z
          · exact h z.symm
          · exact m z]
        rfl
theorem KN.pt {α : Type} {l : List (Int × α)} (h : KN l) (p : Int) (v : α) : KN (pt l p v) := by
  unfold KN at h ⊢
  rw [pt_keys]
  split
  · exact h
  · rename_i m
    rw [List.nodup_append]
    exact ⟨h, List.nodup_cons.mpr ⟨List.not_mem_nil, List.nodup_nil⟩, fun a ha b hb e => m (by rw [List.mem_singleton] at hb; rw [← hb, ← e]; exact ha)⟩
theorem KN.dl {α : Type} {l : List (Int × α)} (h : KN l) (p : Int) : KN (dl l p) := by
  unfold KN at h ⊢
  unfold SW.dl
  exact h.sublist (List.filter_sublist.map _)
end SW
namespace SW
open PySem L2
end SW
namespace SW
open PySem L2
theorem KN.take {α : Type} {l : List (Int × α)} (h : KN l) (k : Nat) : KN (l.take k) := by
  unfold KN at h ⊢
  rw [List.map_take]
  exact h.sublist (List.take_sublist _ _)
theorem KN.fresh {α : Type} {l : List (Int × α)} (h : KN l) {k : Nat} {x : Int × α} (e : l[k]? = some x) : x.1 ∉ (l.take k).map (·.1) := by
  intro m
  rw [List.map_take] at m
  obtain ⟨i, hi, e2⟩ := List.mem_take_iff_getElem.mp m
  have hk := (List.getElem?_eq_some_iff.mp e).1
  have e3 : (l.map (·.1))[k]? = some x.1 := by rw [List.getElem?_map, e]; rfl
  exact nodup_get h (List.getElem?_eq_getElem (by omega)) e3 (by omega) e2
end SW
/-! the law's defs in the small language (printed) -/
namespace SW
abbrev f_way_between : Nat := 0
abbrev f_ring_of : Nat := 1
abbrev f_is_within : Nat := 2
abbrev f_need_bridges : Nat := 3
abbrev f_tie_of : Nat := 4
abbrev f_make_net : Nat := 5
abbrev f_law_cell_at : Nat := 6
abbrev f_law_row : Nat := 7
abbrev f_law_take : Nat := 8
abbrev f_law_net : Nat := 9
abbrev f_law_places : Nat := 10
abbrev f_law_has_ring : Nat := 11
abbrev f_law_goes_round : Nat := 12
abbrev f_law_ring_right : Nat := 13
abbrev f_law : Nat := 14
abbrev x_ShutError : Nat := 0
abbrev x_NoNet : Nat := 1
abbrev k_MOST_BRIDGES : D := .int 10
abbrev k_MOST_TIES : D := .int 16
abbrev k_MOST_NUMBER : D := .int 999
abbrev k_MOST_COST : D := .int 1000
def b_way_between : Sms :=
  (.cons (.asg (.nm 3) (.dic (.cons (.var 1) (.cons (.lst .nil) .nil)) .nil))
  (.cons (.asg (.nm 4) (.lst (.cons (.var 1) .nil)))
  (.cons (.while_ (.cmp .ne (.var 4) (.lst .nil)) (
    (.cons (.asg (.nm 5) (.bmt (.var 4) .pop .nil))
    (.cons (.for_ (.tup (.cons (.nm 6) (.cons (.nm 7) .nil))) (.seq (.bmt (.var 0) .get (.cons (.var 5) (.cons (.lst .nil) .nil)))) (
      (.cons (.ite (.cmp .notin (.var 7) (.var 3)) (
        (.cons (.asS (.var 3) (.var 7) (.bin .add (.ix (.var 3) (.var 5)) (.lst (.cons (.var 6) .nil))))
        (.cons (.ex (.bmt (.var 4) .append (.cons (.var 7) .nil))) .nil))) .nil) .nil))) .nil))))
  (.cons (.ret (.bmt (.var 3) .get (.cons (.var 2) .nil))) .nil))))
def b_ring_of : Sms :=
  (.cons (.asg (.nm 2) (.dic .nil .nil))
  (.cons (.for_ (.nm 3) (.seq (.var 1)) (
    (.cons (.asg (.tup (.cons (.nm 5) (.cons (.nm 6) (.cons (.nm 7) .nil)))) (.ix (.ix (.var 0) (.cst (.int 1))) (.var 3)))
    (.cons (.asg (.nm 4) (.call f_way_between (.cons (.var 2) (.cons (.var 5) (.cons (.var 6) .nil)))))
    (.cons (.ite (.cmp .isnot (.var 4) (.cst .non)) (
      (.cons (.ret (.bin .add (.var 4) (.lst (.cons (.var 3) .nil)))) .nil)) .nil)
    (.cons (.ex (.bmt (.bmt (.var 2) .setdefault (.cons (.var 5) (.cons (.lst .nil) .nil))) .append (.cons (.tup (.cons (.var 3) (.cons (.var 6) .nil))) .nil)))
    (.cons (.ex (.bmt (.bmt (.var 2) .setdefault (.cons (.var 6) (.cons (.lst .nil) .nil))) .append (.cons (.tup (.cons (.var 3) (.cons (.var 5) .nil))) .nil))) .nil)))))))
  (.cons (.ret (.cst .non)) .nil)))
def b_is_within : Sms :=
  (.cons (.ret (.an (.isi (.var 0) [.int]) (.an (.no (.isi (.var 0) [.bool])) (.chn .le .le (.var 1) (.var 0) (.var 2))))) .nil)
def b_need_bridges : Sms :=
  (.cons (.ite (.or (.no (.isi (.var 0) [.list])) (.no (.chn .le .le (.cst (.int 1)) (.blt .len (.cons (.var 0) .nil)) (.cst k_MOST_BRIDGES)))) (
    (.cons (.raise x_NoNet) .nil)) .nil)
  (.cons (.for_ (.tup (.cons (.nm 1) (.cons (.nm 2) .nil))) (.enu (.var 0)) (
    (.cons (.ite (.or (.no (.call f_is_within (.cons (.var 2) (.cons (.cst (.int 0)) (.cons (.cst k_MOST_NUMBER) .nil))))) (.cmp .in_ (.var 2) (.slc (.var 0) .no (.some (.var 1))))) (
      (.cons (.raise x_NoNet) .nil)) .nil) .nil))) .nil))
def b_tie_of : Sms :=
  (.cons (.ite (.or (.no (.isi (.var 1) [.tuple])) (.or (.cmp .ne (.blt .len (.cons (.var 1) .nil)) (.cst (.int 3))) (.no (.call f_is_within (.cons (.ix (.var 1) (.cst (.int 2))) (.cons (.cst (.int 1)) (.cons (.cst k_MOST_COST) .nil))))))) (
    (.cons (.raise x_NoNet) .nil)) .nil)
  (.cons (.for_ (.nm 2) (.seq (.slc (.var 1) .no (.some (.cst (.int 2))))) (
    (.cons (.ite (.or (.no (.call f_is_within (.cons (.var 2) (.cons (.cst (.int 0)) (.cons (.cst k_MOST_NUMBER) .nil))))) (.cmp .notin (.var 2) (.var 0))) (
      (.cons (.raise x_NoNet) .nil)) .nil) .nil)))
  (.cons (.ite (.cmp .eq (.ix (.var 1) (.cst (.int 0))) (.ix (.var 1) (.cst (.int 1)))) (
    (.cons (.raise x_NoNet) .nil)) .nil)
  (.cons (.ret (.tup (.cons (.blt .min (.cons (.slc (.var 1) .no (.some (.cst (.int 2)))) .nil)) (.cons (.blt .max (.cons (.slc (.var 1) .no (.some (.cst (.int 2)))) .nil)) (.cons (.ix (.var 1) (.cst (.int 2))) .nil))))) .nil))))
def b_make_net : Sms :=
  (.cons (.ex (.call f_need_bridges (.cons (.var 0) .nil)))
  (.cons (.ite (.or (.no (.isi (.var 1) [.list])) (.cmp .gt (.blt .len (.cons (.var 1) .nil)) (.cst k_MOST_TIES))) (
    (.cons (.raise x_NoNet) .nil)) .nil)
  (.cons (.ret (.tup (.cons (.blt .tuple (.cons (.blt .sorted (.cons (.var 0) .nil)) .nil)) (.cons (.blt .tuple (.cons (.comp (.call f_tie_of (.cons (.var 0) (.cons (.var 2) .nil))) (.nm 2) (.seq (.var 1)) (.cst (.bl true)) [2]) .nil)) .nil)))) .nil)))
def b_law_cell_at : Sms :=
  (.cons (.ite (.cmp .lt (.var 1) (.blt .len (.cons (.var 0) .nil))) (
    (.cons (.ret (.ix (.var 0) (.var 1))) .nil)) .nil)
  (.cons (.ret (.cst (.int 0))) .nil))
def b_law_row : Sms :=
  (.cons (.ret (.lst (.cons (.var 0) (.cons (.bin .mod (.var 0) (.cst (.int 2147483587))) .nil)))) .nil)
def b_law_take : Sms :=
  (.cons (.ite (.cmp .gt (.ix (.var 0) (.cst (.int 0))) (.bin .pow (.cst (.int 10)) (.cst (.int 18)))) (
    (.cons (.asg (.nm 2) (.bin .mod (.ix (.var 0) (.cst (.int 0))) (.var 1)))
    (.cons (.asS (.var 0) (.cst (.int 0)) (.bin .fdiv (.ix (.var 0) (.cst (.int 0))) (.var 1)))
    (.cons (.ret (.var 2)) .nil)))) .nil)
  (.cons (.asS (.var 0) (.cst (.int 1)) (.bin .mod (.bin .add (.bin .add (.bin .mul (.ix (.var 0) (.cst (.int 1))) (.ix (.var 0) (.cst (.int 1)))) (.bin .mul (.cst (.int 69621)) (.ix (.var 0) (.cst (.int 1))))) (.cst (.int 12345))) (.cst (.int 2147483587))))
  (.cons (.ret (.bin .mod (.bin .fdiv (.ix (.var 0) (.cst (.int 1))) (.cst (.int 8))) (.var 1))) .nil)))
def b_law_net : Sms :=
  (.cons (.asg (.nm 1) (.bin .add (.cst (.int 1)) (.call f_law_take (.cons (.var 0) (.cons (.cst (.int 6)) .nil)))))
  (.cons (.asg (.nm 2) (.ix (.lst (.cons (.cst (.int 1)) (.cons (.cst (.int 3)) (.cons (.cst (.int 10)) (.cons (.cst (.int 100)) .nil))))) (.call f_law_take (.cons (.var 0) (.cons (.cst (.int 4)) .nil)))))
  (.cons (.asg (.nm 3) (.comp (.bin .add (.bin .mul (.var 2) (.bin .add (.var 5) (.call f_law_take (.cons (.var 0) (.cons (.cst (.int 2)) .nil))))) (.ix (.lst (.cons (.cst (.int 0)) (.cons (.cst (.int 7)) .nil))) (.bin .fdiv (.var 2) (.cst (.int 100))))) (.nm 5) (.rng1 (.var 1)) (.cst (.bl true)) [5]))
  (.cons (.asg (.nm 3) (.sset (.var 3)))
  (.cons (.asg (.nm 4) (.lst .nil))
  (.cons (.for_ (.nm 5) (.rng1 (.call f_law_take (.cons (.var 0) (.cons (.cst (.int 10)) .nil)))) (
    (.cons (.asg (.nm 6) (.ix (.var 3) (.call f_law_take (.cons (.var 0) (.cons (.blt .len (.cons (.var 3) .nil)) .nil)))))
    (.cons (.asg (.nm 7) (.ix (.var 3) (.call f_law_take (.cons (.var 0) (.cons (.blt .len (.cons (.var 3) .nil)) .nil)))))
    (.cons (.asg (.nm 8) (.ix (.lst (.cons (.cst (.int 1)) (.cons (.cst (.int 1)) (.cons (.cst (.int 2)) (.cons (.bin .add (.cst (.int 1)) (.call f_law_take (.cons (.var 0) (.cons (.cst (.int 4)) .nil)))) (.cons (.bin .add (.cst (.int 1)) (.call f_law_take (.cons (.var 0) (.cons (.cst (.int 1000)) .nil)))) .nil)))))) (.call f_law_take (.cons (.var 0) (.cons (.cst (.int 5)) .nil)))))
    (.cons (.ite (.cmp .ne (.var 6) (.var 7)) (
      (.cons (.ex (.bmt (.var 4) .append (.cons (.tup (.cons (.var 6) (.cons (.var 7) (.cons (.var 8) .nil)))) .nil))) .nil)) .nil) .nil))))))
  (.cons (.for_ (.nm 5) (.rng2 (.cst (.int 1)) (.blt .len (.cons (.var 3) .nil))) (
    (.cons (.ite (.cmp .gt (.call f_law_take (.cons (.var 0) (.cons (.cst (.int 4)) .nil))) (.cst (.int 0))) (
      (.cons (.ex (.bmt (.var 4) .append (.cons (.tup (.cons (.ix (.var 3) (.call f_law_take (.cons (.var 0) (.cons (.var 5) .nil)))) (.cons (.ix (.var 3) (.var 5)) (.cons (.bin .add (.cst (.int 1)) (.call f_law_take (.cons (.var 0) (.cons (.cst (.int 3)) .nil)))) .nil)))) .nil))) .nil)) .nil) .nil)))
  (.cons (.ret (.call f_make_net (.cons (.var 3) (.cons (.var 4) .nil)))) .nil))))))))
def b_law_places : Sms :=
  (.cons (.asg (.nm 2) (.lst .nil))
  (.cons (.for_ (.nm 3) (.rng1 (.blt .len (.cons (.ix (.var 1) (.cst (.int 1))) .nil))) (
    (.cons (.ite (.cmp .gt (.call f_law_take (.cons (.var 0) (.cons (.cst (.int 3)) .nil))) (.cst (.int 0))) (
      (.cons (.ex (.bmt (.var 2) .insert (.cons (.call f_law_take (.cons (.var 0) (.cons (.bin .add (.blt .len (.cons (.var 2) .nil)) (.cst (.int 1))) .nil))) (.cons (.var 3) .nil)))) .nil)) .nil) .nil)))
  (.cons (.ret (.var 2)) .nil)))
def b_law_has_ring : Sms :=
  (.cons (.asg (.nm 2) (.blt .dict (.cons (.comp (.tup (.cons (.var 6) (.cons (.var 6) .nil))) (.nm 6) (.seq (.ix (.var 0) (.cst (.int 0)))) (.cst (.bl true)) [6]) .nil)))
  (.cons (.for_ (.nm 3) (.seq (.var 1)) (
    (.cons (.asg (.nm 4) (.ix (.var 2) (.ix (.ix (.ix (.var 0) (.cst (.int 1))) (.var 3)) (.cst (.int 0)))))
    (.cons (.asg (.nm 5) (.ix (.var 2) (.ix (.ix (.ix (.var 0) (.cst (.int 1))) (.var 3)) (.cst (.int 1)))))
    (.cons (.ite (.cmp .eq (.var 4) (.var 5)) (
      (.cons (.ret (.cst (.bl true))) .nil)) .nil)
    (.cons (.for_ (.nm 6) (.seq (.ix (.var 0) (.cst (.int 0)))) (
      (.cons (.ite (.cmp .eq (.ix (.var 2) (.var 6)) (.var 4)) (
        (.cons (.asS (.var 2) (.var 6) (.var 5)) .nil)) .nil) .nil))) .nil))))))
  (.cons (.ret (.cst (.bl false))) .nil)))
def b_law_goes_round : Sms :=
  (.cons (.asg (.nm 3) (.var 2))
  (.cons (.for_ (.nm 4) (.seq (.var 1)) (
    (.cons (.asg (.nm 5) (.ix (.ix (.var 0) (.cst (.int 1))) (.var 4)))
    (.cons (.ite (.cmp .notin (.var 3) (.slc (.var 5) .no (.some (.cst (.int 2))))) (
      (.cons (.ret (.cst (.bl false))) .nil)) .nil)
    (.cons (.asg (.nm 3) (.bin .sub (.bin .add (.ix (.var 5) (.cst (.int 0))) (.ix (.var 5) (.cst (.int 1)))) (.var 3))) .nil)))))
  (.cons (.ret (.cmp .eq (.var 3) (.var 2))) .nil)))
def b_law_ring_right : Sms :=
  (.cons (.ite (.or (.no (.isi (.var 2) [.list])) (.or (.cmp .lt (.blt .len (.cons (.var 2) .nil)) (.cst (.int 2))) (.cmp .ne (.lset (.var 2)) (.blt .len (.cons (.var 2) .nil))))) (
    (.cons (.ret (.cst (.bl false))) .nil)) .nil)
  (.cons (.ite (.cmp .ne (.comp (.var 4) (.nm 4) (.seq (.var 2)) (.cmp .notin (.var 4) (.var 1)) [4]) (.lst .nil)) (
    (.cons (.ret (.cst (.bl false))) .nil)) .nil)
  (.cons (.asg (.nm 3) (.slc (.ix (.ix (.var 0) (.cst (.int 1))) (.ix (.var 2) (.cst (.int 0)))) .no (.some (.cst (.int 2)))))
  (.cons (.ret (.or (.call f_law_goes_round (.cons (.var 0) (.cons (.var 2) (.cons (.ix (.var 3) (.cst (.int 0))) .nil)))) (.call f_law_goes_round (.cons (.var 0) (.cons (.var 2) (.cons (.ix (.var 3) (.cst (.int 1))) .nil)))))) .nil))))
def b_law : Sms :=
  (.cons (.for_ (.nm 1) (.seq (.bin .add (.slc (.var 0) .no (.some (.cst (.int 30)))) (.lst (.cons (.cst (.int 0)) .nil)))) (
    (.cons (.asg (.nm 2) (.call f_law_row (.cons (.var 1) .nil)))
    (.cons (.asg (.nm 3) (.call f_law_net (.cons (.var 2) .nil)))
    (.cons (.asg (.nm 4) (.call f_law_places (.cons (.var 2) (.cons (.var 3) .nil))))
    (.cons (.asg (.nm 5) (.blt .list (.cons (.var 4) .nil)))
    (.cons (.asg (.nm 6) (.call f_ring_of (.cons (.var 3) (.cons (.var 5) .nil))))
    (.cons (.ite (.cmp .ne (.var 5) (.var 4)) (
      (.cons (.ret (.cst (.bl false))) .nil)) .nil)
    (.cons (.ite (.no (.call f_law_has_ring (.cons (.var 3) (.cons (.var 4) .nil)))) (
      (.cons (.ite (.cmp .isnot (.var 6) (.cst .non)) (
        (.cons (.ret (.cst (.bl false))) .nil)) .nil) .nil)) (
      (.cons (.ite (.no (.call f_law_ring_right (.cons (.var 3) (.cons (.var 4) (.cons (.var 6) .nil))))) (
        (.cons (.ret (.cst (.bl false))) .nil)) .nil) .nil))) .nil)))))))))
  (.cons (.ret (.cst (.bl true))) .nil))
def TT : List FD := [
  ⟨3, 8, b_way_between⟩,
  ⟨2, 8, b_ring_of⟩,
  ⟨3, 3, b_is_within⟩,
  ⟨1, 3, b_need_bridges⟩,
  ⟨2, 3, b_tie_of⟩,
  ⟨2, 3, b_make_net⟩,
  ⟨2, 2, b_law_cell_at⟩,
  ⟨1, 1, b_law_row⟩,
  ⟨2, 3, b_law_take⟩,
  ⟨1, 9, b_law_net⟩,
  ⟨2, 4, b_law_places⟩,
  ⟨2, 7, b_law_has_ring⟩,
  ⟨3, 6, b_law_goes_round⟩,
  ⟨3, 5, b_law_ring_right⟩,
  ⟨1, 7, b_law⟩]
def T (f : Nat) : Option FD := TT[f]?
def pM : Nat → Nat → Option Nat
  | _, _ => none
def pI : Nat → Option Nat
  | _ => none
def subT : List ((Nat × Nat) × Bool) := []
def isxT : List ((Nat × Option Nat) × Bool) := []
def pS (a b : Nat) : Option Bool := subT.lookup (a, b)
def pX (a : Nat) (b : Option Nat) : Option Bool := isxT.lookup (a, b)
def P0 : Prg := ⟨pM, pI, pS, pX⟩
def depth : Nat := 40
end SW
namespace SW
open PySem PySem.Spec PyProof.Rows L2
/-! ### the link with the text -/
def tp (i : Nat) : Stmt := PySem.Challenge.pw_shutways_k33_rings_told.main.body.getD i (.Pass ⟨0, 0, 0, 0⟩)
abbrev s_way_between : Stmt := tp 1
def d_way_between : He.DefD := ⟨("way_between", none), "way_between", "way_between", defArgs s_way_between, defBody s_way_between, defScope s_way_between, [], []⟩
abbrev s_ring_of : Stmt := tp 2
def d_ring_of : He.DefD := ⟨("ring_of", none), "ring_of", "ring_of", defArgs s_ring_of, defBody s_ring_of, defScope s_ring_of, [], []⟩
abbrev s_is_within : Stmt := tp 11
def d_is_within : He.DefD := ⟨("is_within", none), "is_within", "is_within", defArgs s_is_within, defBody s_is_within, defScope s_is_within, [], []⟩
abbrev s_need_bridges : Stmt := tp 12
def d_need_bridges : He.DefD := ⟨("need_bridges", none), "need_bridges", "need_bridges", defArgs s_need_bridges, defBody s_need_bridges, defScope s_need_bridges, [], []⟩
abbrev s_tie_of : Stmt := tp 13
def d_tie_of : He.DefD := ⟨("tie_of", none), "tie_of", "tie_of", defArgs s_tie_of, defBody s_tie_of, defScope s_tie_of, [], []⟩
abbrev s_make_net : Stmt := tp 14
def d_make_net : He.DefD := ⟨("make_net", none), "make_net", "make_net", defArgs s_make_net, defBody s_make_net, defScope s_make_net, [], []⟩
abbrev s_law_cell_at : Stmt := tp 16
def d_law_cell_at : He.DefD := ⟨("_law_cell_at", none), "_law_cell_at", "_law_cell_at", defArgs s_law_cell_at, defBody s_law_cell_at, defScope s_law_cell_at, [], []⟩
abbrev s_law_row : Stmt := tp 17
def d_law_row : He.DefD := ⟨("_law_row", none), "_law_row", "_law_row", defArgs s_law_row, defBody s_law_row, defScope s_law_row, [], []⟩
abbrev s_law_take : Stmt := tp 18
def d_law_take : He.DefD := ⟨("_law_take", none), "_law_take", "_law_take", defArgs s_law_take, defBody s_law_take, defScope s_law_take, [], []⟩
abbrev s_law_net : Stmt := tp 19
def d_law_net : He.DefD := ⟨("_law_net", none), "_law_net", "_law_net", defArgs s_law_net, defBody s_law_net, defScope s_law_net, [], []⟩
abbrev s_law_places : Stmt := tp 20
def d_law_places : He.DefD := ⟨("_law_places", none), "_law_places", "_law_places", defArgs s_law_places, defBody s_law_places, defScope s_law_places, [], []⟩
abbrev s_law_has_ring : Stmt := tp 21
def d_law_has_ring : He.DefD := ⟨("_law_has_ring", none), "_law_has_ring", "_law_has_ring", defArgs s_law_has_ring, defBody s_law_has_ring, defScope s_law_has_ring, [], []⟩
abbrev s_law_goes_round : Stmt := tp 22
def d_law_goes_round : He.DefD := ⟨("_law_goes_round", none), "_law_goes_round", "_law_goes_round", defArgs s_law_goes_round, defBody s_law_goes_round, defScope s_law_goes_round, [], []⟩
abbrev s_law_ring_right : Stmt := tp 23
def d_law_ring_right : He.DefD := ⟨("_law_ring_right", none), "_law_ring_right", "_law_ring_right", defArgs s_law_ring_right, defBody s_law_ring_right, defScope s_law_ring_right, [], []⟩
abbrev s_law : Stmt := tp 24
def d_law : He.DefD := ⟨("law", none), "law", "law", defArgs s_law, defBody s_law, defScope s_law, [], []⟩
def fns : List He.DefD := d_way_between :: d_ring_of :: d_is_within :: d_need_bridges :: d_tie_of :: d_make_net :: d_law_cell_at :: d_law_row :: d_law_take :: d_law_net :: d_law_places :: d_law_has_ring :: d_law_goes_round :: d_law_ring_right :: d_law :: []
def facts : List He.Fa := .glo "way_between" :: .glo "ring_of" :: .glo "is_within" :: .glo "need_bridges" :: .glo "tie_of" :: .glo "make_net" :: .glo "_law_cell_at" :: .glo "_law_row" :: .glo "_law_take" :: .glo "_law_net" :: .glo "_law_places" :: .glo "_law_has_ring" :: .glo "_law_goes_round" :: .glo "_law_ring_right" :: .glo "law" :: .free "ValueError" :: .free "bool" :: .free "dict" :: .free "enumerate" :: .free "int" :: .free "isinstance" :: .free "len" :: .free "list" :: .free "max" :: .free "min" :: .free "range" :: .free "set" :: .free "sorted" :: .free "tuple" :: .int "MOST_BRIDGES" 10 :: .int "MOST_TIES" 16 :: .int "MOST_NUMBER" 999 :: .int "MOST_COST" 1000 :: .glo "ShutError" :: .exc "ShutError" :: .glo "NoNet" :: .exc "NoNet" :: []
def gls : List (Str × Gk) := ("way_between", .fn f_way_between) :: ("ring_of", .fn f_ring_of) :: ("is_within", .fn f_is_within) :: ("need_bridges", .fn f_need_bridges) :: ("tie_of", .fn f_tie_of) :: ("make_net", .fn f_make_net) :: ("_law_cell_at", .fn f_law_cell_at) :: ("_law_row", .fn f_law_row) :: ("_law_take", .fn f_law_take) :: ("_law_net", .fn f_law_net) :: ("_law_places", .fn f_law_places) :: ("_law_has_ring", .fn f_law_has_ring) :: ("_law_goes_round", .fn f_law_goes_round) :: ("_law_ring_right", .fn f_law_ring_right) :: ("law", .fn f_law) :: ("ShutError", .exc x_ShutError) :: ("NoNet", .exc x_NoNet) :: ("MOST_BRIDGES", .cst k_MOST_BRIDGES) :: ("MOST_TIES", .cst k_MOST_TIES) :: ("MOST_NUMBER", .cst k_MOST_NUMBER) :: ("MOST_COST", .cst k_MOST_COST) :: []
def bns : List Str := "ValueError" :: "bool" :: "dict" :: "enumerate" :: "int" :: "isinstance" :: "len" :: "list" :: "max" :: "min" :: "range" :: "set" :: "sorted" :: "tuple" :: []
def fldT : List (Str × Nat) := []
def mthT : List (Str × Nat) := []
def G0 : EC := ⟨[], [], [], gls, bns, fldT, mthT, []⟩
def n_way_between : List Str := ["tied", "one", "other", "come", "waits", "here", "place", "there"]
def p_way_between : List Str := ["tied", "one", "other"]
theorem sc_way_between : FnScope n_way_between p_way_between (defScope s_way_between) := ⟨rfl, rfl, rfl, by decide +kernel, rfl, by decide +kernel, by decide +kernel⟩
theorem el_way_between : elSs (elS 40 ({ G0 with dn := ["come"] }.fn n_way_between (defScope s_way_between))) (defBody s_way_between) = some b_way_between := by kernel_rfl
def n_ring_of : List Str := ["net", "ways", "tied", "place", "way", "one", "other", "cost"]
def p_ring_of : List Str := ["net", "ways"]
theorem sc_ring_of : FnScope n_ring_of p_ring_of (defScope s_ring_of) := ⟨rfl, rfl, rfl, by decide +kernel, rfl, by decide +kernel, by decide +kernel⟩
theorem el_ring_of : elSs (elS 40 ({ G0 with dn := ["tied"] }.fn n_ring_of (defScope s_ring_of))) (defBody s_ring_of) = some b_ring_of := by kernel_rfl
def n_is_within : List Str := ["thing", "least", "most"]
def p_is_within : List Str := ["thing", "least", "most"]
theorem sc_is_within : FnScope n_is_within p_is_within (defScope s_is_within) := ⟨rfl, rfl, rfl, by decide +kernel, rfl, by decide +kernel, by decide +kernel⟩
theorem el_is_within : elSs (elS 40 ({ G0 with dn := [] }.fn n_is_within (defScope s_is_within))) (defBody s_is_within) = some b_is_within := by kernel_rfl
def n_need_bridges : List Str := ["bridges", "spot", "number"]
def p_need_bridges : List Str := ["bridges"]
theorem sc_need_bridges : FnScope n_need_bridges p_need_bridges (defScope s_need_bridges) := ⟨rfl, rfl, rfl, by decide +kernel, rfl, by decide +kernel, by decide +kernel⟩
theorem el_need_bridges : elSs (elS 40 ({ G0 with dn := [] }.fn n_need_bridges (defScope s_need_bridges))) (defBody s_need_bridges) = some b_need_bridges := by kernel_rfl
def n_tie_of : List Str := ["bridges", "thing", "number"]
def p_tie_of : List Str := ["bridges", "thing"]
theorem sc_tie_of : FnScope n_tie_of p_tie_of (defScope s_tie_of) := ⟨rfl, rfl, rfl, by decide +kernel, rfl, by decide +kernel, by decide +kernel⟩
theorem el_tie_of : elSs (elS 40 ({ G0 with dn := [] }.fn n_tie_of (defScope s_tie_of))) (defBody s_tie_of) = some b_tie_of := by kernel_rfl
def n_make_net : List Str := ["bridges", "ties", "thing"]
def p_make_net : List Str := ["bridges", "ties"]
theorem sc_make_net : FnScope n_make_net p_make_net (defScope s_make_net) := ⟨rfl, rfl, rfl, by decide +kernel, rfl, by decide +kernel, by decide +kernel⟩
theorem el_make_net : elSs (elS 40 ({ G0 with dn := [] }.fn n_make_net (defScope s_make_net))) (defBody s_make_net) = some b_make_net := by kernel_rfl
def n_law_cell_at : List Str := ["script", "k"]
def p_law_cell_at : List Str := ["script", "k"]
theorem sc_law_cell_at : FnScope n_law_cell_at p_law_cell_at (defScope s_law_cell_at) := ⟨rfl, rfl, rfl, by decide +kernel, rfl, by decide +kernel, by decide +kernel⟩
theorem el_law_cell_at : elSs (elS 40 ({ G0 with dn := [] }.fn n_law_cell_at (defScope s_law_cell_at))) (defBody s_law_cell_at) = some b_law_cell_at := by kernel_rfl
def n_law_row : List Str := ["cell"]
def p_law_row : List Str := ["cell"]
theorem sc_law_row : FnScope n_law_row p_law_row (defScope s_law_row) := ⟨rfl, rfl, rfl, by decide +kernel, rfl, by decide +kernel, by decide +kernel⟩
theorem el_law_row : elSs (elS 40 ({ G0 with dn := [] }.fn n_law_row (defScope s_law_row))) (defBody s_law_row) = some b_law_row := by kernel_rfl
def n_law_take : List Str := ["row", "many", "told"]
def p_law_take : List Str := ["row", "many"]
theorem sc_law_take : FnScope n_law_take p_law_take (defScope s_law_take) := ⟨rfl, rfl, rfl, by decide +kernel, rfl, by decide +kernel, by decide +kernel⟩
theorem el_law_take : elSs (elS 40 ({ G0 with dn := [] }.fn n_law_take (defScope s_law_take))) (defBody s_law_take) = some b_law_take := by kernel_rfl
def n_law_net : List Str := ["row", "many", "step", "bridges", "ties", "k", "one", "other", "cost"]
def p_law_net : List Str := ["row"]
theorem sc_law_net : FnScope n_law_net p_law_net (defScope s_law_net) := ⟨rfl, rfl, rfl, by decide +kernel, rfl, by decide +kernel, by decide +kernel⟩
theorem el_law_net : elSs (elS 40 ({ G0 with dn := [] }.fn n_law_net (defScope s_law_net))) (defBody s_law_net) = some b_law_net := by kernel_rfl
def n_law_places : List Str := ["row", "net", "places", "place"]
def p_law_places : List Str := ["row", "net"]
theorem sc_law_places : FnScope n_law_places p_law_places (defScope s_law_places) := ⟨rfl, rfl, rfl, by decide +kernel, rfl, by decide +kernel, by decide +kernel⟩
theorem el_law_places : elSs (elS 40 ({ G0 with dn := [] }.fn n_law_places (defScope s_law_places))) (defBody s_law_places) = some b_law_places := by kernel_rfl
def n_law_has_ring : List Str := ["net", "places", "groups", "place", "one", "other", "bridge"]
def p_law_has_ring : List Str := ["net", "places"]
theorem sc_law_has_ring : FnScope n_law_has_ring p_law_has_ring (defScope s_law_has_ring) := ⟨rfl, rfl, rfl, by decide +kernel, rfl, by decide +kernel, by decide +kernel⟩
theorem el_law_has_ring : elSs (elS 40 ({ G0 with dn := ["groups"] }.fn n_law_has_ring (defScope s_law_has_ring))) (defBody s_law_has_ring) = some b_law_has_ring := by kernel_rfl
def n_law_goes_round : List Str := ["net", "ring", "first", "here", "place", "tie"]
def p_law_goes_round : List Str := ["net", "ring", "first"]
theorem sc_law_goes_round : FnScope n_law_goes_round p_law_goes_round (defScope s_law_goes_round) := ⟨rfl, rfl, rfl, by decide +kernel, rfl, by decide +kernel, by decide +kernel⟩
theorem el_law_goes_round : elSs (elS 40 ({ G0 with dn := [] }.fn n_law_goes_round (defScope s_law_goes_round))) (defBody s_law_goes_round) = some b_law_goes_round := by kernel_rfl
def n_law_ring_right : List Str := ["net", "places", "ring", "ends", "place"]
def p_law_ring_right : List Str := ["net", "places", "ring"]
theorem sc_law_ring_right : FnScope n_law_ring_right p_law_ring_right (defScope s_law_ring_right) := ⟨rfl, rfl, rfl, by decide +kernel, rfl, by decide +kernel, by decide +kernel⟩
theorem el_law_ring_right : elSs (elS 40 ({ G0 with dn := [] }.fn n_law_ring_right (defScope s_law_ring_right))) (defBody s_law_ring_right) = some b_law_ring_right := by kernel_rfl
def n_law : List Str := ["script", "cell", "row", "net", "places", "handed", "ring"]
def p_law : List Str := ["script"]
theorem sc_law : FnScope n_law p_law (defScope s_law) := ⟨rfl, rfl, rfl, by decide +kernel, rfl, by decide +kernel, by decide +kernel⟩
theorem el_law : elSs (elS 40 ({ G0 with dn := [] }.fn n_law (defScope s_law))) (defBody s_law) = some b_law := by kernel_rfl
def adr (K : PySem.W.Frag) (f : Nat) : Addr := He.fAd K ((fns.getD f d_way_between).at_)
def nmT : List Str := []
def caT : List Str := "ShutError" :: "NoNet" :: []
def mkC (K : PySem.W.Frag) : Cn := ⟨K, fun n => nmT.getD n "", fun c => He.ga K (caT.getD c ""), fun c => c < 0, fun f => f < 0⟩
theorem fl_way_between {K : PySem.W.Frag} (c : He.SaysD facts fns K) : ∃ fd ps, FnL (mkC K) G0 (adr K f_way_between) ⟨3, 8, b_way_between⟩ fd ps ∧ ps = p_way_between := by
  obtain ⟨fd, F⟩ := c.def_ 0 (d := d_way_between) rfl
  exact ⟨fd, p_way_between, ⟨⟨_, _, _, _, _, n_way_between, 40, _, F, sc_way_between, rfl, el_way_between⟩, rfl, FunD.bindsA (ps := p_way_between) F fun _ _ _ _ _ _ us hl => match us, hl with | [_, _, _], _ => rfl⟩, rfl⟩
theorem fl_ring_of {K : PySem.W.Frag} (c : He.SaysD facts fns K) : ∃ fd ps, FnL (mkC K) G0 (adr K f_ring_of) ⟨2, 8, b_ring_of⟩ fd ps ∧ ps = p_ring_of := by
  obtain ⟨fd, F⟩ := c.def_ 1 (d := d_ring_of) rfl
  exact ⟨fd, p_ring_of, ⟨⟨_, _, _, _, _, n_ring_of, 40, _, F, sc_ring_of, rfl, el_ring_of⟩, rfl, FunD.bindsA (ps := p_ring_of) F fun _ _ _ _ _ _ us hl => match us, hl with | [_, _], _ => rfl⟩, rfl⟩
theorem fl_is_within {K : PySem.W.Frag} (c : He.SaysD facts fns K) : ∃ fd ps, FnL (mkC K) G0 (adr K f_is_within) ⟨3, 3, b_is_within⟩ fd ps ∧ ps = p_is_within := by
  obtain ⟨fd, F⟩ := c.def_ 2 (d := d_is_within) rfl
  exact ⟨fd, p_is_within, ⟨⟨_, _, _, _, _, n_is_within, 40, _, F, sc_is_within, rfl, el_is_within⟩, rfl, FunD.bindsA (ps := p_is_within) F fun _ _ _ _ _ _ us hl => match us, hl with | [_, _, _], _ => rfl⟩, rfl⟩
theorem fl_need_bridges {K : PySem.W.Frag} (c : He.SaysD facts fns K) : ∃ fd ps, FnL (mkC K) G0 (adr K f_need_bridges) ⟨1, 3, b_need_bridges⟩ fd ps ∧ ps = p_need_bridges := by
  obtain ⟨fd, F⟩ := c.def_ 3 (d := d_need_bridges) rfl
  exact ⟨fd, p_need_bridges, ⟨⟨_, _, _, _, _, n_need_bridges, 40, _, F, sc_need_bridges, rfl, el_need_bridges⟩, rfl, FunD.bindsA (ps := p_need_bridges) F fun _ _ _ _ _ _ us hl => match us, hl with | [_], _ => rfl⟩, rfl⟩
theorem fl_tie_of {K : PySem.W.Frag} (c : He.SaysD facts fns K) : ∃ fd ps, FnL (mkC K) G0 (adr K f_tie_of) ⟨2, 3, b_tie_of⟩ fd ps ∧ ps = p_tie_of := by
  obtain ⟨fd, F⟩ := c.def_ 4 (d := d_tie_of) rfl
  exact ⟨fd, p_tie_of, ⟨⟨_, _, _, _, _, n_tie_of, 40, _, F, sc_tie_of, rfl, el_tie_of⟩, rfl, FunD.bindsA (ps := p_tie_of) F fun _ _ _ _ _ _ us hl => match us, hl with | [_, _], _ => rfl⟩, rfl⟩
theorem fl_make_net {K : PySem.W.Frag} (c : He.SaysD facts fns K) : ∃ fd ps, FnL (mkC K) G0 (adr K f_make_net) ⟨2, 3, b_make_net⟩ fd ps ∧ ps = p_make_net := by
  obtain ⟨fd, F⟩ := c.def_ 5 (d := d_make_net) rfl
  exact ⟨fd, p_make_net, ⟨⟨_, _, _, _, _, n_make_net, 40, _, F, sc_make_net, rfl, el_make_net⟩, rfl, FunD.bindsA (ps := p_make_net) F fun _ _ _ _ _ _ us hl => match us, hl with | [_, _], _ => rfl⟩, rfl⟩
theorem fl_law_cell_at {K : PySem.W.Frag} (c : He.SaysD facts fns K) : ∃ fd ps, FnL (mkC K) G0 (adr K f_law_cell_at) ⟨2, 2, b_law_cell_at⟩ fd ps ∧ ps = p_law_cell_at := by
  obtain ⟨fd, F⟩ := c.def_ 6 (d := d_law_cell_at) rfl
  exact ⟨fd, p_law_cell_at, ⟨⟨_, _, _, _, _, n_law_cell_at, 40, _, F, sc_law_cell_at, rfl, el_law_cell_at⟩, rfl, FunD.bindsA (ps := p_law_cell_at) F fun _ _ _ _ _ _ us hl => match us, hl with | [_, _], _ => rfl⟩, rfl⟩
theorem fl_law_row {K : PySem.W.Frag} (c : He.SaysD facts fns K) : ∃ fd ps, FnL (mkC K) G0 (adr K f_law_row) ⟨1, 1, b_law_row⟩ fd ps ∧ ps = p_law_row := by
  obtain ⟨fd, F⟩ := c.def_ 7 (d := d_law_row) rfl
  exact ⟨fd, p_law_row, ⟨⟨_, _, _, _, _, n_law_row, 40, _, F, sc_law_row, rfl, el_law_row⟩, rfl, FunD.bindsA (ps := p_law_row) F fun _ _ _ _ _ _ us hl => match us, hl with | [_], _ => rfl⟩, rfl⟩
theorem fl_law_take {K : PySem.W.Frag} (c : He.SaysD facts fns K) : ∃ fd ps, FnL (mkC K) G0 (adr K f_law_take) ⟨2, 3, b_law_take⟩ fd ps ∧ ps = p_law_take := by
  obtain ⟨fd, F⟩ := c.def_ 8 (d := d_law_take) rfl
  exact ⟨fd, p_law_take, ⟨⟨_, _, _, _, _, n_law_take, 40, _, F, sc_law_take, rfl, el_law_take⟩, rfl, FunD.bindsA (ps := p_law_take) F fun _ _ _ _ _ _ us hl => match us, hl with | [_, _], _ => rfl⟩, rfl⟩
theorem fl_law_net {K : PySem.W.Frag} (c : He.SaysD facts fns K) : ∃ fd ps, FnL (mkC K) G0 (adr K f_law_net) ⟨1, 9, b_law_net⟩ fd ps ∧ ps = p_law_net := by
  obtain ⟨fd, F⟩ := c.def_ 9 (d := d_law_net) rfl
  exact ⟨fd, p_law_net, ⟨⟨_, _, _, _, _, n_law_net, 40, _, F, sc_law_net, rfl, el_law_net⟩, rfl, FunD.bindsA (ps := p_law_net) F fun _ _ _ _ _ _ us hl => match us, hl with | [_], _ => rfl⟩, rfl⟩
theorem fl_law_places {K : PySem.W.Frag} (c : He.SaysD facts fns K) : ∃ fd ps, FnL (mkC K) G0 (adr K f_law_places) ⟨2, 4, b_law_places⟩ fd ps ∧ ps = p_law_places := by
  obtain ⟨fd, F⟩ := c.def_ 10 (d := d_law_places) rfl
  exact ⟨fd, p_law_places, ⟨⟨_, _, _, _, _, n_law_places, 40, _, F, sc_law_places, rfl, el_law_places⟩, rfl, FunD.bindsA (ps := p_law_places) F fun _ _ _ _ _ _ us hl => match us, hl with | [_, _], _ => rfl⟩, rfl⟩
theorem fl_law_has_ring {K : PySem.W.Frag} (c : He.SaysD facts fns K) : ∃ fd ps, FnL (mkC K) G0 (adr K f_law_has_ring) ⟨2, 7, b_law_has_ring⟩ fd ps ∧ ps = p_law_has_ring := by
  obtain ⟨fd, F⟩ := c.def_ 11 (d := d_law_has_ring) rfl
  exact ⟨fd, p_law_has_ring, ⟨⟨_, _, _, _, _, n_law_has_ring, 40, _, F, sc_law_has_ring, rfl, el_law_has_ring⟩, rfl, FunD.bindsA (ps := p_law_has_ring) F fun _ _ _ _ _ _ us hl => match us, hl with | [_, _], _ => rfl⟩, rfl⟩
theorem fl_law_goes_round {K : PySem.W.Frag} (c : He.SaysD facts fns K) : ∃ fd ps, FnL (mkC K) G0 (adr K f_law_goes_round) ⟨3, 6, b_law_goes_round⟩ fd ps ∧ ps = p_law_goes_round := by
  obtain ⟨fd, F⟩ := c.def_ 12 (d := d_law_goes_round) rfl
  exact ⟨fd, p_law_goes_round, ⟨⟨_, _, _, _, _, n_law_goes_round, 40, _, F, sc_law_goes_round, rfl, el_law_goes_round⟩, rfl, FunD.bindsA (ps := p_law_goes_round) F fun _ _ _ _ _ _ us hl => match us, hl with | [_, _, _], _ => rfl⟩, rfl⟩
theorem fl_law_ring_right {K : PySem.W.Frag} (c : He.SaysD facts fns K) : ∃ fd ps, FnL (mkC K) G0 (adr K f_law_ring_right) ⟨3, 5, b_law_ring_right⟩ fd ps ∧ ps = p_law_ring_right := by
  obtain ⟨fd, F⟩ := c.def_ 13 (d := d_law_ring_right) rfl
  exact ⟨fd, p_law_ring_right, ⟨⟨_, _, _, _, _, n_law_ring_right, 40, _, F, sc_law_ring_right, rfl, el_law_ring_right⟩, rfl, FunD.bindsA (ps := p_law_ring_right) F fun _ _ _ _ _ _ us hl => match us, hl with | [_, _, _], _ => rfl⟩, rfl⟩
theorem fl_law {K : PySem.W.Frag} (c : He.SaysD facts fns K) : ∃ fd ps, FnL (mkC K) G0 (adr K f_law) ⟨1, 7, b_law⟩ fd ps ∧ ps = p_law := by
  obtain ⟨fd, F⟩ := c.def_ 14 (d := d_law) rfl
  exact ⟨fd, p_law, ⟨⟨_, _, _, _, _, n_law, 40, _, F, sc_law, rfl, el_law⟩, rfl, FunD.bindsA (ps := p_law) F fun _ _ _ _ _ _ us hl => match us, hl with | [_], _ => rfl⟩, rfl⟩
def exB (K : PySem.W.Frag) : Bool := exS (mkC K) subT isxT
theorem ex_0 {K : PySem.W.Frag} (h : exB K = true) : exS (mkC K) subT isxT = true := by
  unfold exB at h
  exact h
theorem kp_way_between {K : PySem.W.Frag} (c : He.SaysD facts fns K) : PySem.W.keepIn K (.ref (adr K f_way_between)) = true := by
  obtain ⟨fd, F⟩ := c.def_ 0 (d := d_way_between) rfl
  exact F.kp
theorem kp_ring_of {K : PySem.W.Frag} (c : He.SaysD facts fns K) : PySem.W.keepIn K (.ref (adr K f_ring_of)) = true := by
  obtain ⟨fd, F⟩ := c.def_ 1 (d := d_ring_of) rfl
  exact F.kp
theorem kp_is_within {K : PySem.W.Frag} (c : He.SaysD facts fns K) : PySem.W.keepIn K (.ref (adr K f_is_within)) = true := by
  obtain ⟨fd, F⟩ := c.def_ 2 (d := d_is_within) rfl
  exact F.kp
theorem kp_need_bridges {K : PySem.W.Frag} (c : He.SaysD facts fns K) : PySem.W.keepIn K (.ref (adr K f_need_bridges)) = true := by
  obtain ⟨fd, F⟩ := c.def_ 3 (d := d_need_bridges) rfl
  exact F.kp
theorem kp_tie_of {K : PySem.W.Frag} (c : He.SaysD facts fns K) : PySem.W.keepIn K (.ref (adr K f_tie_of)) = true := by
  obtain ⟨fd, F⟩ := c.def_ 4 (d := d_tie_of) rfl
  exact F.kp
theorem kp_make_net {K : PySem.W.Frag} (c : He.SaysD facts fns K) : PySem.W.keepIn K (.ref (adr K f_make_net)) = true := by
  obtain ⟨fd, F⟩ := c.def_ 5 (d := d_make_net) rfl
  exact F.kp
theorem kp_law_cell_at {K : PySem.W.Frag} (c : He.SaysD facts fns K) : PySem.W.keepIn K (.ref (adr K f_law_cell_at)) = true := by
  obtain ⟨fd, F⟩ := c.def_ 6 (d := d_law_cell_at) rfl
  exact F.kp
theorem kp_law_row {K : PySem.W.Frag} (c : He.SaysD facts fns K) : PySem.W.keepIn K (.ref (adr K f_law_row)) = true := by
  obtain ⟨fd, F⟩ := c.def_ 7 (d := d_law_row) rfl
  exact F.kp
theorem kp_law_take {K : PySem.W.Frag} (c : He.SaysD facts fns K) : PySem.W.keepIn K (.ref (adr K f_law_take)) = true := by
  obtain ⟨fd, F⟩ := c.def_ 8 (d := d_law_take) rfl
  exact F.kp
theorem kp_law_net {K : PySem.W.Frag} (c : He.SaysD facts fns K) : PySem.W.keepIn K (.ref (adr K f_law_net)) = true := by
  obtain ⟨fd, F⟩ := c.def_ 9 (d := d_law_net) rfl
  exact F.kp
theorem kp_law_places {K : PySem.W.Frag} (c : He.SaysD facts fns K) : PySem.W.keepIn K (.ref (adr K f_law_places)) = true := by
  obtain ⟨fd, F⟩ := c.def_ 10 (d := d_law_places) rfl
  exact F.kp
theorem kp_law_has_ring {K : PySem.W.Frag} (c : He.SaysD facts fns K) : PySem.W.keepIn K (.ref (adr K f_law_has_ring)) = true := by
  obtain ⟨fd, F⟩ := c.def_ 11 (d := d_law_has_ring) rfl
  exact F.kp
theorem kp_law_goes_round {K : PySem.W.Frag} (c : He.SaysD facts fns K) : PySem.W.keepIn K (.ref (adr K f_law_goes_round)) = true := by
  obtain ⟨fd, F⟩ := c.def_ 12 (d := d_law_goes_round) rfl
  exact F.kp
theorem kp_law_ring_right {K : PySem.W.Frag} (c : He.SaysD facts fns K) : PySem.W.keepIn K (.ref (adr K f_law_ring_right)) = true := by
  obtain ⟨fd, F⟩ := c.def_ 13 (d := d_law_ring_right) rfl
  exact F.kp
theorem kp_law {K : PySem.W.Frag} (c : He.SaysD facts fns K) : PySem.W.keepIn K (.ref (adr K f_law)) = true := by
  obtain ⟨fd, F⟩ := c.def_ 14 (d := d_law) rfl
  exact F.kp
theorem link_ok {K : PySem.W.Frag} {h : Heap} {mg : Str → Option Value} (X : K.In h) (G : h.Ns mainGlobals mg) (c : He.SaysD facts fns K) (hx : exB K = true) : Lk (mkC K) P0 T G0 (adr K) mg := by
  have q1 : ∀ q ∈ gls, GlL (mkC K) P0 T (adr K) mg q.1 q.2 := allc (⟨He.glo_ok X G (c.fact 0), kp_way_between c, rfl⟩) (allc (⟨He.glo_ok X G (c.fact 1), kp_ring_of c, rfl⟩) (allc (⟨He.glo_ok X G (c.fact 2), kp_is_within c, rfl⟩) (allc (⟨He.glo_ok X G (c.fact 3), kp_need_bridges c, rfl⟩) (allc (⟨He.glo_ok X G (c.fact 4), kp_tie_of c, rfl⟩) (allc (⟨He.glo_ok X G (c.fact 5), kp_make_net c, rfl⟩) (allc (⟨He.glo_ok X G (c.fact 6), kp_law_cell_at c, rfl⟩) (allc (⟨He.glo_ok X G (c.fact 7), kp_law_row c, rfl⟩) (allc (⟨He.glo_ok X G (c.fact 8), kp_law_take c, rfl⟩) (allc (⟨He.glo_ok X G (c.fact 9), kp_law_net c, rfl⟩) (allc (⟨He.glo_ok X G (c.fact 10), kp_law_places c, rfl⟩) (allc (⟨He.glo_ok X G (c.fact 11), kp_law_has_ring c, rfl⟩) (allc (⟨He.glo_ok X G (c.fact 12), kp_law_goes_round c, rfl⟩) (allc (⟨He.glo_ok X G (c.fact 13), kp_law_ring_right c, rfl⟩) (allc (⟨He.glo_ok X G (c.fact 14), kp_law c, rfl⟩) (allc ((have e := He.exc_ok (c.fact 34); ⟨He.glo_ok X G (c.fact 33), e.1, e.2.1, e.2.2.1, e.2.2.2⟩)) (allc ((have e := He.exc_ok (c.fact 36); ⟨He.glo_ok X G (c.fact 35), e.1, e.2.1, e.2.2.1, e.2.2.2⟩)) (allc ((have ⟨t, e⟩ := He.int_ok X G (c.fact 29); ⟨.int 10, _, e, ⟨t, rfl⟩, fun _ => .int _⟩)) (allc ((have ⟨t, e⟩ := He.int_ok X G (c.fact 30); ⟨.int 16, _, e, ⟨t, rfl⟩, fun _ => .int _⟩)) (allc ((have ⟨t, e⟩ := He.int_ok X G (c.fact 31); ⟨.int 999, _, e, ⟨t, rfl⟩, fun _ => .int _⟩)) (allc ((have ⟨t, e⟩ := He.int_ok X G (c.fact 32); ⟨.int 1000, _, e, ⟨t, rfl⟩, fun _ => .int _⟩)) (alln)))))))))))))))))))))
  have q2 : ∀ x ∈ bns, mg x = none := allc (He.free_ok X G (c.fact 15)) (allc (He.free_ok X G (c.fact 16)) (allc (He.free_ok X G (c.fact 17)) (allc (He.free_ok X G (c.fact 18)) (allc (He.free_ok X G (c.fact 19)) (allc (He.free_ok X G (c.fact 20)) (allc (He.free_ok X G (c.fact 21)) (allc (He.free_ok X G (c.fact 22)) (allc (He.free_ok X G (c.fact 23)) (allc (He.free_ok X G (c.fact 24)) (allc (He.free_ok X G (c.fact 25)) (allc (He.free_ok X G (c.fact 26)) (allc (He.free_ok X G (c.fact 27)) (allc (He.free_ok X G (c.fact 28)) (alln))))))))))))))
  have q3 : ∀ q ∈ fldT, (mkC K).nm q.2 = q.1 ∧ (mkC K).isF q.2 := alln
  have q4 : ∀ q ∈ mthT, (mkC K).nm q.2 = q.1 := alln
  refine { F := ⟨?inj, ?cls, ?noat⟩, fns := ?fns, gl := fun x g e => q1 (x, g) (lookup_mem e), bn := fun x e => q2 x (List.contains_iff_mem.mp e), fld := fun s f e => q3 (s, f) (lookup_mem e), mnm := fun s f e => q4 (s, f) (lookup_mem e), mth := ?mth, ini := ?ini, icl := ?icl, sub := exS_sub (ex_0 hx), isx := exS_isx (ex_0 hx) }
  case inj => exact fun f g hf => absurd hf (Nat.not_lt_zero _)
  case cls => exact fun k hk => absurd hk (Nat.not_lt_zero _)
  case noat => exact fun k f hk => absurd hk (Nat.not_lt_zero _)
  case fns =>
    intro f d e
    match f, e with
    | 0, e => cases e; obtain ⟨fd, ps, h, _⟩ := fl_way_between c; exact ⟨fd, ps, h⟩
    | 1, e => cases e; obtain ⟨fd, ps, h, _⟩ := fl_ring_of c; exact ⟨fd, ps, h⟩
    | 2, e => cases e; obtain ⟨fd, ps, h, _⟩ := fl_is_within c; exact ⟨fd, ps, h⟩
    | 3, e => cases e; obtain ⟨fd, ps, h, _⟩ := fl_need_bridges c; exact ⟨fd, ps, h⟩
    | 4, e => cases e; obtain ⟨fd, ps, h, _⟩ := fl_tie_of c; exact ⟨fd, ps, h⟩
    | 5, e => cases e; obtain ⟨fd, ps, h, _⟩ := fl_make_net c; exact ⟨fd, ps, h⟩
    | 6, e => cases e; obtain ⟨fd, ps, h, _⟩ := fl_law_cell_at c; exact ⟨fd, ps, h⟩
    | 7, e => cases e; obtain ⟨fd, ps, h, _⟩ := fl_law_row c; exact ⟨fd, ps, h⟩
    | 8, e => cases e; obtain ⟨fd, ps, h, _⟩ := fl_law_take c; exact ⟨fd, ps, h⟩
    | 9, e => cases e; obtain ⟨fd, ps, h, _⟩ := fl_law_net c; exact ⟨fd, ps, h⟩
    | 10, e => cases e; obtain ⟨fd, ps, h, _⟩ := fl_law_places c; exact ⟨fd, ps, h⟩
    | 11, e => cases e; obtain ⟨fd, ps, h, _⟩ := fl_law_has_ring c; exact ⟨fd, ps, h⟩
    | 12, e => cases e; obtain ⟨fd, ps, h, _⟩ := fl_law_goes_round c; exact ⟨fd, ps, h⟩
    | 13, e => cases e; obtain ⟨fd, ps, h, _⟩ := fl_law_ring_right c; exact ⟨fd, ps, h⟩
    | 14, e => cases e; obtain ⟨fd, ps, h, _⟩ := fl_law c; exact ⟨fd, ps, h⟩
    | n + 15, e => cases e
  case mth =>
    intro k m f e
    change pM k m = some f at e
    unfold pM at e
    split at e
    · cases e
  case ini =>
    intro k f e
    change pI k = some f at e
    unfold pI at e
    split at e
    · cases e
  case icl =>
    intro k f e
    change pI k = some f at e
    unfold pI at e
    split at e
    · cases e
abbrev RR : PySem.W.OpenRow := PySem.W.OpenLaw.row PySem.Challenge.rw_shutways_k33_rings_told
abbrev hk : PySem.W.Hook := hookS 5 facts fns exB
def ob (s : PySem.W.SharedT) : He.AlD × Bool := obS 5 facts fns exB (HandSHeadRun.getT s)
theorem ob_eq (s : PySem.W.SharedT) : ob s = hk.obs s.abs := obS_eq (HandSHeadRun.getT_eq s)
def loose : List Str := "way_between" :: "ring_of" :: "ShutError" :: "NoNet" :: "MOST_BRIDGES" :: "MOST_TIES" :: "MOST_NUMBER" :: "MOST_COST" :: "is_within" :: "need_bridges" :: "tie_of" :: "make_net" :: "_law_cell_at" :: "_law_row" :: "_law_take" :: "_law_net" :: "_law_places" :: "_law_has_ring" :: "_law_goes_round" :: "_law_ring_right" :: []
theorem topRunEq (w : World) : HandSHeadRun.RunEq RR (PySem.W.view RR.prog [24]) hk ob 100000 loose w := by
  intro os
  kernel_rfl
end SW
/-! J, part A: pure values at data, contexts. -/
namespace SW
open PySem L2

/-! ### values -/
class Rp (α : Type) where
  own : α → D → HP
  rd : α → D → HP
  own_up : ∀ {v d h h'}, Le h h' → own v d h → own v d h'
  rd_up : ∀ {v d h h'}, Le h h' → rd v d h → rd v d h'
  own_rd : ∀ {v d h}, own v d h → rd v d h
open Rp (own rd)
class Pl (α : Type) extends Rp α where
  enc : α → D
  own_iff : ∀ {v d h}, own v d h ↔ d = enc v
  rd_iff : ∀ {v d h}, rd v d h ↔ d = enc v
open Pl (enc)
@[reducible] def Pl.of {α : Type} (enc : α → D) : Pl α where
  own v d _ := d = enc v
  rd v d _ := d = enc v
  own_up _ h := h
  rd_up _ h := h
  own_rd h := h
  enc := enc
  own_iff := Iff.rfl
  rd_iff := Iff.rfl
instance : Pl Int := .of .int
instance : Pl Bool := .of .bl
instance : Pl Str := .of .str
instance : Pl Unit := .of fun _ => .non
/-- plain data as it is -/
instance : Pl D := .of id
structure T2 (α β : Type) where
  a : α
  b : β
  deriving DecidableEq
structure T3 (α β γ : Type) where
  a : α
  b : β
  c : γ
  deriving DecidableEq
structure T4 (α β γ δ : Type) where
  a : α
  b : β
  c : γ
  d : δ
  deriving DecidableEq
structure T5 (α β γ δ ε : Type) where
  a : α
  b : β
  c : γ
  d : δ
  e : ε
  deriving DecidableEq
structure T6 (α β γ δ ε ζ : Type) where
  a : α
  b : β
  c : γ
  d : δ
  e : ε
  f : ζ
  deriving DecidableEq
structure T7 (α β γ δ ε ζ η : Type) where
  a : α
  b : β
  c : γ
  d : δ
  e : ε
  f : ζ
  g : η
  deriving DecidableEq
def optE {α : Type} (e : α → D) : Option α → D
  | none => .non
  | some x => e x
instance {α : Type} [Pl α] : Pl (Option α) := .of (optE enc)
instance {α β : Type} [Pl α] [Pl β] : Pl (T2 α β) := .of fun x => .tup [enc x.a, enc x.b]
instance {α β γ : Type} [Pl α] [Pl β] [Pl γ] : Pl (T3 α β γ) := .of fun x => .tup [enc x.a, enc x.b, enc x.c]
instance {α β γ δ : Type} [Pl α] [Pl β] [Pl γ] [Pl δ] : Pl (T4 α β γ δ) := .of fun x => .tup [enc x.a, enc x.b, enc x.c, enc x.d]
instance {α β γ δ ε : Type} [Pl α] [Pl β] [Pl γ] [Pl δ] [Pl ε] : Pl (T5 α β γ δ ε) := .of fun x => .tup [enc x.a, enc x.b, enc x.c, enc x.d, enc x.e]
instance {α β γ δ ε ζ : Type} [Pl α] [Pl β] [Pl γ] [Pl δ] [Pl ε] [Pl ζ] : Pl (T6 α β γ δ ε ζ) := .of fun x => .tup [enc x.a, enc x.b, enc x.c, enc x.d, enc x.e, enc x.f]
instance {α β γ δ ε ζ η : Type} [Pl α] [Pl β] [Pl γ] [Pl δ] [Pl ε] [Pl ζ] [Pl η] : Pl (T7 α β γ δ ε ζ η) := .of fun x => .tup [enc x.a, enc x.b, enc x.c, enc x.d, enc x.e, enc x.f, enc x.g]
/-- a tuple of any length of like things -/
structure Tl (α : Type) where
  l : List α
  deriving DecidableEq
instance {α : Type} [Pl α] : Pl (Tl α) := .of fun x => .tup (x.l.map enc)

/-! ### parts -/
def Pts : List (D → HP) → List D → HP
  | [], [] => fun _ => True
  | r :: rs, d :: ds => fun h => ∃ h1 h2, Dj h1 h2 ∧ Le h1 h ∧ Le h2 h ∧ r d h1 ∧ Pts rs ds h2
  | _, _ => fun _ => False
def Ats : List (D → HP) → List D → HP
  | [], [] => fun _ => True
  | r :: rs, d :: ds => fun h => r d h ∧ Ats rs ds h
  | _, _ => fun _ => False
theorem Pts.up : ∀ {rs : List (D → HP)} {ds : List D} {h h' : Store}, Le h h' → Pts rs ds h → Pts rs ds h'
  | [], [], _, _, _, _ => trivial
  | r :: rs, d :: ds, h, h', l, ⟨h1, h2, a, b, c, e, f⟩ => ⟨h1, h2, a, b.trans l, c.trans l, e, f⟩
  | [], _ :: _, _, _, _, z => z.elim
  | _ :: _, [], _, _, _, z => z.elim
theorem Pts.len : ∀ {rs : List (D → HP)} {ds : List D} {h : Store}, Pts rs ds h → rs.length = ds.length
  | [], [], _, _ => rfl
  | r :: rs, d :: ds, h, ⟨h1, h2, a, b, c, e, f⟩ => by rw [List.length_cons, List.length_cons, f.len]
  | [], _ :: _, _, z => z.elim
  | _ :: _, [], _, z => z.elim
theorem Ats.up {rs : List (D → HP)} (hr : ∀ r ∈ rs, ∀ d h h', Le h h' → r d h → r d h') : ∀ {ds : List D} {h h' : Store}, Le h h' → Ats rs ds h → Ats rs ds h' := by
  induction rs with
  | nil => intro ds h h' l z; cases ds with
    | nil => trivial
    | cons => exact z.elim
  | cons r rs ih =>
    intro ds h h' l z
    cases ds with
    | nil => exact z.elim
    | cons d ds => exact ⟨hr r List.mem_cons_self _ _ _ l z.1, ih (fun r m => hr r (List.mem_cons_of_mem _ m)) l z.2⟩
theorem Ats.len : ∀ {rs : List (D → HP)} {ds : List D} {h : Store}, Ats rs ds h → rs.length = ds.length
  | [], [], _, _ => rfl
  | r :: rs, d :: ds, h, ⟨_, f⟩ => by rw [List.length_cons, List.length_cons, f.len]
  | [], _ :: _, _, z => z.elim
  | _ :: _, [], _, z => z.elim
theorem pts_sep {rs : List (D → HP)} {r : D → HP} {ds : List D} {d : D} {h : Store} : Pts (r :: rs) (d :: ds) h ↔ Sep [r d, Pts rs ds] h := by
  constructor
  · rintro ⟨h1, h2, a, b, c, e, f⟩
    exact ⟨h1, h2, a, b, c, e, h2, fun _ => none, fun _ => .inr rfl, .refl, (fun _ _ z => by cases z), f, trivial⟩
  · rintro ⟨h1, h2, a, b, c, e, h3, h4, a', b', c', e', _⟩
    exact ⟨h1, h2, a, b, c, e, e'.up b'⟩
/-- the parts' readings -/
theorem pts_ats {rs rs' : List (D → HP)} : ∀ {ds : List D} {h : Store}, (rs.length = rs'.length) → (∀ (i : Nat) (r r' : D → HP), rs[i]? = some r → rs'[i]? = some r' → ∀ d h h', Le h h' → r d h → r' d h') → Pts rs ds h → Ats rs' ds h := by
  induction rs generalizing rs' with
  | nil =>
    intro ds h hl _ z
    cases rs' with
    | nil => cases ds with
      | nil => trivial
      | cons => exact z.elim
    | cons => cases hl
  | cons r rs ih =>
    intro ds h hl hr z
    cases rs' with
    | nil => cases hl
    | cons r' rs' =>
      cases ds with
      | nil => exact z.elim
      | cons d ds =>
        obtain ⟨h1, h2, a, b, c, e, f⟩ := z
        exact ⟨hr 0 r r' rfl rfl _ _ _ b e, ih (by simpa using hl) (fun i q q' m m' => hr (i + 1) q q' m m') (f.up c)⟩
theorem ats_own {α : Type} [Rp α] {xs : List α} {ds : List D} {h : Store} (z : Pts (xs.map own) ds h) : Ats (xs.map rd) ds h :=
  pts_ats (by rw [List.length_map, List.length_map]) (fun i r r' e e' d h h' l q => by
    rw [List.getElem?_map] at e e'
    cases hx : xs[i]? with
    | none => rw [hx] at e; cases e
    | some x =>
      rw [hx] at e e'
      cases e
      cases e'
      exact Rp.rd_up l (Rp.own_rd q)) z
theorem ats_rd_up {α : Type} [Rp α] {xs : List α} {ds : List D} {h h' : Store} (l : Le h h') (z : Ats (xs.map rd) ds h) : Ats (xs.map rd) ds h' :=
  Ats.up (fun r m d h h' l q => by
    obtain ⟨x, _, rfl⟩ := List.mem_map.mp m
    exact Rp.rd_up l q) l z
theorem ats_pl {α : Type} [Pl α] : ∀ {xs : List α} {ds : List D} {h : Store}, Ats (xs.map rd) ds h ↔ ds = xs.map enc
  | [], [], _ => ⟨fun _ => rfl, fun _ => trivial⟩
  | [], _ :: _, _ => ⟨fun z => z.elim, fun z => by cases z⟩
  | _ :: _, [], _ => ⟨fun z => z.elim, fun z => by cases z⟩
  | x :: xs, d :: ds, h => by
    have ih := ats_pl (xs := xs) (ds := ds) (h := h)
    constructor
    · rintro ⟨a, b⟩
      rw [ih.mp b, Pl.rd_iff.mp a]
      rfl
    · intro e
      cases e
      exact ⟨Pl.rd_iff.mpr rfl, ih.mpr rfl⟩
theorem pts_pl {α : Type} [Pl α] : ∀ {xs : List α} {ds : List D} {h : Store}, Pts (xs.map own) ds h ↔ ds = xs.map enc
  | [], [], _ => ⟨fun _ => rfl, fun _ => trivial⟩
  | [], _ :: _, _ => ⟨fun z => z.elim, fun z => by cases z⟩
  | _ :: _, [], _ => ⟨fun z => z.elim, fun z => by cases z⟩
  | x :: xs, d :: ds, h => by
    constructor
    · rintro ⟨h1, h2, a, b, c, e, f⟩
      rw [(pts_pl (xs := xs)).mp f, Pl.own_iff.mp e]
      rfl
    · intro e
      cases e
      exact ⟨fun _ => none, h, fun _ => .inl rfl, (fun _ _ z => by cases z), .refl, Pl.own_iff.mpr rfl, (pts_pl (xs := xs)).mpr rfl⟩
/-! ### lists, dicts, objects -/
instance {α : Type} [Rp α] : Rp (List α) where
  own xs d h := ∃ a ds, d = .ref a ∧ Sep [Ls a ds, Pts (xs.map own) ds] h
  rd xs d h := ∃ a ds, d = .ref a ∧ h a = some (.lst ds) ∧ Ats (xs.map rd) ds h
  own_up l := fun ⟨a, ds, e, z⟩ => ⟨a, ds, e, z.le l⟩
  rd_up l := fun ⟨a, ds, e, x, y⟩ => ⟨a, ds, e, l _ _ x, ats_rd_up l y⟩
  own_rd := fun ⟨a, ds, e, z⟩ => ⟨a, ds, e, z.get, by
    obtain ⟨h1, h2, _, _, l2, _, h3, h4, _, l3, _, p, _⟩ := z
    exact ats_rd_up (l3.trans l2) (ats_own p)⟩
/-- keys of dicts -/
class Ky (κ : Type) extends Pl κ where
  key : ∀ k : κ, isKey (enc k) = true
  eqk : ∀ j k : κ, eqK (enc j) (enc k) = true ↔ j = k
instance : Ky Int where
  key _ := rfl
  eqk j k := by
    show (j == k) = true ↔ _
    exact beq_iff_eq
instance : Ky Str where
  key _ := rfl
  eqk j k := by
    show (j == k) = true ↔ _
    exact beq_iff_eq
def Dct (κ α : Type) := List (κ × α)
def Dct.l {κ α : Type} (x : Dct κ α) : List (κ × α) := x
def Dct.keys {κ α : Type} (x : Dct κ α) : List κ := x.l.map fun p => p.1
def kds {κ α : Type} [Ky κ] (x : Dct κ α) (ds : List D) : List (D × D) := List.zip (x.l.map fun p => enc p.1) ds
instance {κ α : Type} [Ky κ] [Rp α] : Rp (Dct κ α) where
  own x d h := x.keys.Nodup ∧ ∃ a ds, d = .ref a ∧ Sep [Dc a (kds x ds), Pts (x.l.map fun p => own p.2) ds] h
  rd x d h := x.keys.Nodup ∧ ∃ a ds, d = .ref a ∧ h a = some (.dic (kds x ds)) ∧ Ats (x.l.map fun p => rd p.2) ds h
  own_up l := fun ⟨n, a, ds, e, z⟩ => ⟨n, a, ds, e, z.le l⟩
  rd_up {v d h h'} l := fun ⟨n, a, ds, e, x, y⟩ => ⟨n, a, ds, e, l _ _ x, by
    have e1 : (v.l.map fun p => rd p.2) = (v.l.map (·.2)).map rd := by rw [List.map_map]; rfl
    rw [e1] at y ⊢
    exact ats_rd_up l y⟩
  own_rd {v d h} := fun ⟨n, a, ds, e, z⟩ => ⟨n, a, ds, e, z.get, by
    obtain ⟨h1, h2, _, _, l2, _, h3, h4, _, l3, _, p, _⟩ := z
    have e1 : (v.l.map fun p => rd p.2) = (v.l.map (·.2)).map rd := by rw [List.map_map]; rfl
    have e2 : (v.l.map fun p => own p.2) = (v.l.map (·.2)).map own := by rw [List.map_map]; rfl
    rw [e1]
    rw [e2] at p
    exact ats_rd_up (l3.trans l2) (ats_own p)⟩
theorem rd_dicC {S : Store} {a : Addr} {kvs : List (D × D)} (e : S a = some (.dic kvs)) : S.rd a = some (.dic kvs) := by unfold Store.rd; rw [e]; rfl
/-- objects: the class, the fields' names, what they hold -/
def insO (c : Nat) (fs : List Nat) (rs : List (D → HP)) (d : D) : HP := fun h => ∃ a ds, d = .ref a ∧ Sep [Cl a (.ins c (List.zip fs ds)), Pts rs ds] h
def insR (c : Nat) (fs : List Nat) (rs : List (D → HP)) (d : D) : HP := fun h => ∃ a ds, d = .ref a ∧ h a = some (.ins c (List.zip fs ds)) ∧ Ats rs ds h

/-! ### contexts -/
abbrev Cx := List (Option (D → HP))
def sl : Option (D → HP) → Option D → HP
  | none, _ => fun _ => True
  | some r, o => fun h => ∃ d, o = some d ∧ r d h
def Rel : Cx → Env → List HP
  | g :: Γ, o :: env => sl g o :: Rel Γ env
  | _, _ => []
def keep (S0 : Store) : HP := fun h => Le S0 h
theorem Sep.true0 {L : List HP} {S : Store} (h : Sep L S) : Sep ((fun _ => True) :: L) S := ⟨fun _ => none, S, fun _ => .inl rfl, (fun _ _ z => by cases z), .refl, trivial, h⟩
theorem Sep.fact {p : Prop} {L : List HP} {S : Store} (hp : p) (h : Sep L S) : Sep ((fun _ => p) :: L) S := ⟨fun _ => none, S, fun _ => .inl rfl, (fun _ _ z => by cases z), .refl, hp, h⟩
theorem Rel.take {L : List HP} {r : D → HP} : ∀ {Γ : Cx} {env : Env} {i : Nat} {S : Store}, Γ[i]? = some (some r) → env.length = Γ.length → Sep (Rel Γ env ++ L) S → ∃ d, env[i]? = some (some d) ∧ Sep (r d :: (Rel (Γ.set i none) env ++ L)) S
  | [], _, _, _, e, _, _ => by cases e
  | _ :: _, [], _, _, _, hl, _ => by cases hl
  | g :: Γ, o :: env, 0, S, e, hl, h => by
    cases e
    obtain ⟨h1, h2, dj, l1, l2, ⟨d, ed, q⟩, t⟩ := h
    subst ed
    exact ⟨d, rfl, h1, h2, dj, l1, l2, q, t.true0⟩
  | g :: Γ, o :: env, i + 1, S, e, hl, h => by
    obtain ⟨h1, h2, dj, l1, l2, q, t⟩ := h
    obtain ⟨d, ed, t'⟩ := Rel.take (i := i) e (by simpa using hl) t
    exact ⟨d, ed, Sep.swap ⟨h1, h2, dj, l1, l2, q, t'⟩⟩
theorem Rel.put {L : List HP} {r : D → HP} {d : D} : ∀ {Γ : Cx} {env : Env} {i : Nat} {S : Store}, i < Γ.length → env[i]? = some (some d) → Sep (r d :: (Rel Γ env ++ L)) S → Sep (Rel (Γ.set i (some r)) env ++ L) S
  | [], _, _, _, e, _, _ => absurd e (Nat.not_lt_zero _)
  | _ :: _, [], _, _, _, hl, _ => by cases hl
  | g :: Γ, o :: env, 0, S, e, hl, h => by
    cases hl
    obtain ⟨h1, h2, dj, l1, l2, q, t⟩ := h
    exact ⟨h1, h2, dj, l1, l2, ⟨d, rfl, q⟩, t.tail⟩
  | g :: Γ, o :: env, i + 1, S, e, hl, h => by
    obtain ⟨h1, h2, dj, l1, l2, q, t⟩ := h.swap
    exact ⟨h1, h2, dj, l1, l2, q, Rel.put (i := i) (by simpa using e) hl t⟩
theorem Rel.asg {L : List HP} {r : D → HP} {d : D} : ∀ {Γ : Cx} {env : Env} {i : Nat} {S : Store}, env.length = Γ.length → Sep (r d :: (Rel Γ env ++ L)) S → Sep (Rel (Γ.set i (some r)) (env.set i (some d)) ++ L) S
  | [], [], _, _, _, h => h.tail
  | [], _ :: _, _, _, e, h => by cases e
  | _ :: _, [], _, _, hl, _ => by cases hl
  | g :: Γ, o :: env, 0, S, hl, h => by
    obtain ⟨h1, h2, dj, l1, l2, q, t⟩ := h
    exact ⟨h1, h2, dj, l1, l2, ⟨d, rfl, q⟩, t.tail⟩
  | g :: Γ, o :: env, i + 1, S, hl, h => by
    obtain ⟨h1, h2, dj, l1, l2, q, t⟩ := h.swap
    exact ⟨h1, h2, dj, l1, l2, q, Rel.asg (i := i) (by simpa using hl) t⟩
/-- Γ' knows no more than Γ -/
def Fg : Cx → Cx → Prop
  | [], [] => True
  | g :: Γ, g' :: Γ' => (∀ o h, sl g o h → sl g' o h) ∧ Fg Γ Γ'
  | _, _ => False
theorem Fg.len : ∀ {Γ Γ' : Cx}, Fg Γ Γ' → Γ.length = Γ'.length
  | [], [], _ => rfl
  | _ :: _, _ :: _, h => by rw [List.length_cons, List.length_cons, Fg.len h.2]
  | [], _ :: _, h => h.elim
  | _ :: _, [], h => h.elim
theorem Fg.rel {L : List HP} : ∀ {Γ Γ' : Cx} {env : Env} {S : Store}, Fg Γ Γ' → Sep (Rel Γ env ++ L) S → Sep (Rel Γ' env ++ L) S
  | [], [], _, _, _, h => h
  | _ :: _, _ :: _, [], _, _, h => h
  | g :: Γ, g' :: Γ', o :: env, S, ⟨a, b⟩, h => by
    obtain ⟨h1, h2, dj, l1, l2, q, t⟩ := h
    exact ⟨h1, h2, dj, l1, l2, a _ _ q, Fg.rel b t⟩
  | [], _ :: _, _, _, h, _ => h.elim
  | _ :: _, [], _, _, h, _ => h.elim
theorem fg0 : Fg [] [] := trivial
theorem fgS {g : Option (D → HP)} {Γ Γ' : Cx} (h : Fg Γ Γ') : Fg (g :: Γ) (g :: Γ') := ⟨fun _ _ z => z, h⟩
theorem fgN {g : Option (D → HP)} {Γ Γ' : Cx} (h : Fg Γ Γ') : Fg (g :: Γ) (none :: Γ') := ⟨fun _ _ _ => trivial, h⟩
theorem Fg.refl : ∀ Γ : Cx, Fg Γ Γ
  | [] => trivial
  | _ :: Γ => fgS (Fg.refl Γ)
theorem Fg.trans : ∀ {A B C : Cx}, Fg A B → Fg B C → Fg A C
  | [], [], [], _, _ => trivial
  | _ :: _, _ :: _, _ :: _, ⟨a, b⟩, ⟨c, d⟩ => ⟨fun o h z => c o h (a o h z), b.trans d⟩
  | [], _ :: _, _, h, _ => h.elim
  | _ :: _, [], _, h, _ => h.elim
  | _, [], _ :: _, _, h => h.elim
  | _, _ :: _, [], _, h => h.elim
/-- a context with some slots forgotten -/
theorem Rel.fg {L : List HP} {Γ : Cx} {env : Env} {S : Store} {i : Nat} (h : Sep (Rel Γ env ++ L) S) : Sep (Rel (Γ.set i none) env ++ L) S := by
  refine Fg.rel ?_ h
  clear h
  induction Γ generalizing i with
  | nil => exact trivial
  | cons g Γ ih =>
    cases i with
    | zero => exact fgN (Fg.refl _)
    | succ i => exact fgS ih
/-- slots that are put -/
def updC : Cx → List (Nat × Option (D → HP)) → Cx
  | Γ, [] => Γ
  | Γ, (i, g) :: r => updC (Γ.set i g) r
theorem updC_len : ∀ {es : List (Nat × Option (D → HP))} {Γ : Cx}, (updC Γ es).length = Γ.length
  | [], _ => rfl
  | (i, g) :: r, Γ => by show (updC (Γ.set i g) r).length = _; rw [updC_len, List.length_set]
theorem Fg.set {g g' : Option (D → HP)} (w : ∀ o h, sl g o h → sl g' o h) : ∀ {Γ : Cx} {i : Nat}, (i < Γ.length → Γ[i]? = some g) → Fg Γ (Γ.set i g')
  | [], _, _ => trivial
  | a :: Γ, 0, e => by
    have e := e (Nat.succ_pos _)
    cases e
    exact ⟨w, Fg.refl _⟩
  | a :: Γ, i + 1, e => ⟨fun _ _ z => z, Fg.set w (i := i) fun h => e (Nat.succ_lt_succ h)⟩
/-- the slots put are known -/
inductive FgU : Cx → List (Nat × Option (D → HP)) → Prop
  | nil {Γ} : FgU Γ []
  | non {Γ es i} : FgU (Γ.set i none) es → FgU Γ ((i, none) :: es)
  | same {Γ : Cx} {es i r} : Γ[i]? = some (some r) → FgU (Γ.set i (some r)) es → FgU Γ ((i, some r) :: es)
  | weak {Γ : Cx} {es i r r'} : Γ[i]? = some (some r) → (∀ d h, r d h → r' d h) → FgU (Γ.set i (some r')) es → FgU Γ ((i, some r') :: es)
theorem FgU.fg {Γ : Cx} {es : List (Nat × Option (D → HP))} (h : FgU Γ es) : Fg Γ (updC Γ es) := by
  induction h with
  | nil => exact Fg.refl _
  | @non Γ es i _ ih =>
    refine Fg.trans ?_ ih
    cases e : Γ[i]? with
    | none => exact Fg.set (g := none) (g' := none) (fun _ _ _ => trivial) fun hi => by rw [List.getElem?_eq_none_iff] at e; omega
    | some g => exact Fg.set (g := g) (g' := none) (fun _ _ _ => trivial) fun _ => e
  | @same Γ es i r e _ ih => exact Fg.trans (Fg.set (g := some r) (fun _ _ z => z) fun _ => e) ih
  | @weak Γ es i r r' e w _ ih => exact Fg.trans (Fg.set (g := some r) (g' := some r') (fun _ _ ⟨d, e, z⟩ => ⟨d, e, w _ _ z⟩) fun _ => e) ih
/-- what a new thing is: its cells are not the old ones -/
def New (A : HP) (S S' : Store) : Prop := ∃ h, A h ∧ Le h S' ∧ Dj S h
theorem New.sep {A : HP} {S S' : Store} {L : List HP} (n : New A S S') (l : Le S S') (h : Sep L S) : Sep (A :: L) S' := by
  obtain ⟨k, a, b, c⟩ := n
  exact ⟨k, S, c.symm, b, l, a, h⟩
end SW
/-! J, part B: pure expressions. -/
namespace SW
open PySem L2
open Rp (own rd)
open Pl (enc)
structure Wo where
  P : Prg
  T : Nat → Option FD
  j : Nat
  S0 : Store
abbrev Wo.E (W : Wo) (e : Ex) (env : Env) (S : Store) (Q : PQ) (X : PX) : Prop := wpE W.P (run W.P W.T W.j) (runM W.P W.T W.j) e env S Q X
abbrev Wo.Es (W : Wo) (e : Exs) (env : Env) (S : Store) (Q : List D → Store → Prop) (X : PX) : Prop := wpEs W.P (run W.P W.T W.j) (runM W.P W.T W.j) e env S Q X
abbrev Wo.Ss (W : Wo) (e : Sms) (env : Env) (S : Store) (K : Kt) : Prop := wpSs W.P (run W.P W.T W.j) (runM W.P W.T W.j) e env S K
abbrev Wo.R (W : Wo) : Rec := run W.P W.T W.j
/-- e reads as o -/
def RE {α : Type} [Rp α] (W : Wo) (Γ : Cx) (e : Ex) (o : Option α) : Prop := ∀ v, o = some v → ∀ env L S Q X, env.length = Γ.length → Sep (Rel Γ env ++ keep W.S0 :: L) S →
  (∀ d S', Le S S' → rd v d S' → Q d S') → W.E e env S Q X
/-- e makes o anew -/
def VE {α : Type} [Rp α] (W : Wo) (Γ : Cx) (e : Ex) (o : Option α) : Prop := ∀ v, o = some v → ∀ env L S Q X, env.length = Γ.length → Sep (Rel Γ env ++ keep W.S0 :: L) S →
  (∀ d S', Le S S' → New (own v d) S S' → Q d S') → W.E e env S Q X
/-- e changes the context, and makes o anew -/
def XE {α M : Type} [Rp α] (W : Wo) (Γ : Cx) (e : Ex) (o : Option (α × M)) (N : M → Cx) : Prop := ∀ v m, o = some (v, m) → ∀ env L S Q X, env.length = Γ.length → Sep (Rel Γ env ++ keep W.S0 :: L) S →
  (∀ d S', env.length = (N m).length → Sep (own v d :: (Rel (N m) env ++ keep W.S0 :: L)) S' → Q d S') → W.E e env S Q X
theorem New.rdd {α : Type} [Rp α] {v : α} {d : D} {S S' : Store} (n : New (own v d) S S') : rd v d S' := by
  obtain ⟨h, a, b, _⟩ := n
  exact Rp.rd_up b (Rp.own_rd a)
theorem New.pl {α : Type} [Pl α] {v : α} {d : D} {S S' : Store} (h : rd v d S') : New (own v d) S S' := ⟨fun _ => none, Pl.own_iff.mpr (Pl.rd_iff.mp h), (fun _ _ z => by cases z), fun _ => .inr rfl⟩
theorem New.trans {A : HP} {S S1 S' : Store} (n : New A S1 S') (l : Le S S1) : New A S S' := by
  obtain ⟨h, a, b, c⟩ := n
  exact ⟨h, a, b, c.le l .refl⟩
theorem New.up {A : HP} {S S1 S' : Store} (n : New A S S1) (l : Le S1 S') : New A S S' := by
  obtain ⟨h, a, b, c⟩ := n
  exact ⟨h, a, b.trans l, c⟩
theorem Le.upd {S : Store} {p : Addr} {c : Cell} (h : S p = none) : Le S (S.upd p c) := fun a d e => by
  rw [Store.upd_ne (fun z => by rw [z, h] at e; cases e)]
  exact e
theorem New.one {S : Store} {p : Addr} {c : Cell} {A : HP} (h : S p = none) (a : ∀ k : Store, k p = some c → A k) : New A S (S.upd p c) := by
  refine ⟨fun b => if b = p then some c else none, a _ (if_pos rfl), fun b d e => ?_, fun b => ?_⟩
  · by_cases q : b = p
    · simp only [q, if_true] at e
      rw [q, Store.upd_same]; exact e
    · simp only [q, if_false] at e; cases e
  · by_cases q : b = p
    · left; rw [q]; exact h
    · right; simp only [q, if_false]
/-- a new cell over new parts -/
theorem New.cell {S S1 : Store} {p : Addr} {c : Cell} {B : HP} (n : New B S S1) (l : Le S S1) (h : S1 p = none) : New (Sep [Cl p c, B]) S (S1.upd p c) := by
  obtain ⟨k, a, b, dj⟩ := n
  have s : Sep [B] S1 := ⟨k, fun _ => none, fun _ => .inr rfl, b, (fun _ _ z => by cases z), a, trivial⟩
  have kp : k p = none := by
    cases q : k p with
    | none => rfl
    | some d => rw [b _ _ q] at h; cases h
  refine ⟨k.upd p c, ?_, fun x d e => ?_, fun x => ?_⟩
  · have s2 : Sep [B] k := ⟨k, fun _ => none, fun _ => .inr rfl, .refl, (fun _ _ z => by cases z), a, trivial⟩
    exact s2.new kp
  · by_cases q : x = p
    · rw [q, Store.upd_same] at e ⊢; exact e
    · rw [Store.upd_ne q] at e ⊢; exact b _ _ e
  · by_cases q : x = p
    · left
      rw [q]
      cases z : S p with
      | none => rfl
      | some d => rw [l _ _ z] at h; cases h
    · rw [Store.upd_ne q]; exact dj x
section
variable {W : Wo} {Γ : Cx}
theorem VE.re {α : Type} [Rp α] {e : Ex} {o : Option α} (h : VE W Γ e o) : RE W Γ e o := fun v ev env L S Q X hl hs q => h v ev env L S Q X hl hs fun d S' l n => q d S' l n.rdd
theorem RE.ve {α : Type} [Pl α] {e : Ex} {o : Option α} (h : RE W Γ e o) : VE W Γ e o := fun v ev env L S Q X hl hs q => h v ev env L S Q X hl hs fun d S' l n => q d S' l (.pl n)
theorem VE.xe {α : Type} [Rp α] {e : Ex} {o : Option α} (h : VE W Γ e o) : XE W Γ e (o.bind fun v => some (v, ())) (fun _ => Γ) := fun v m ev env L S Q X hl hs q => by
  cases o with
  | none => cases ev
  | some w => cases ev; exact h _ rfl env L S Q X hl hs fun d S' l n => q d S' hl (n.sep l hs)
/-- entries that read as v -/
def Ent {α : Type} [Rp α] (S0 : Store) (r : D → HP) (v : α) : Prop := ∀ d h S, r d h → Le h S → Le S0 S → rd v d S
def pin {α : Type} [Rp α] (d0 : D) (v : α) : D → HP := fun d h => d = d0 ∧ own v d h
def ro {α : Type} [Rp α] (S1 : Store) (v : α) : D → HP := fun d _ => rd v d S1
theorem Ent.own {α : Type} [Rp α] {S0 : Store} {v : α} : Ent S0 (own v) v := fun _ _ _ z l _ => Rp.rd_up l (Rp.own_rd z)
theorem Ent.pin {α : Type} [Rp α] {S0 : Store} {v : α} {d0 : D} : Ent S0 (pin d0 v) v := fun _ _ _ z l _ => Rp.rd_up l (Rp.own_rd z.2)
theorem Ent.ro {α : Type} [Rp α] {S0 S1 : Store} {v : α} (l1 : Le S1 S0) : Ent S0 (ro S1 v) v := fun _ _ _ z _ l => Rp.rd_up (l1.trans l) z
theorem keep_le {S0 S : Store} {A L : List HP} (h : Sep (A ++ keep S0 :: L) S) : Le S0 S := by
  induction A generalizing S with
  | nil =>
    obtain ⟨h1, h2, _, l1, _, k, _⟩ := h
    exact Le.trans k l1
  | cons A AS ih => exact ih h.tail
theorem RE.var {α : Type} [Rp α] {i : Nat} {r : D → HP} {v : α} (e : Γ[i]? = some (some r)) (h : Ent W.S0 r v) : RE W Γ (.var i) (some v) := fun v' ev env L S Q X hl hs q => by
  cases ev
  obtain ⟨d, ed, z⟩ := Rel.take e hl hs
  obtain ⟨h1, h2, _, l1, l2, a, t⟩ := z
  exact ⟨d, ed, q d S .refl (h d h1 S a l1 (keep_le hs))⟩
theorem RE.int (i : Int) : RE W Γ (.cst (.int i)) (some i) := fun v ev env L S Q X hl hs q => by cases ev; exact q _ S .refl rfl
theorem RE.str (s : Str) : RE W Γ (.cst (.str s)) (some s) := fun v ev env L S Q X hl hs q => by cases ev; exact q _ S .refl rfl
theorem RE.bl (b : Bool) : RE W Γ (.cst (.bl b)) (some b) := fun v ev env L S Q X hl hs q => by cases ev; exact q _ S .refl rfl
theorem RE.non {α : Type} [Pl α] : RE W Γ (.cst .non) (some (none : Option α)) := fun v ev env L S Q X hl hs q => by cases ev; exact q _ S .refl rfl
theorem RE.cst {α : Type} [Pl α] (v : α) (d : D) (e : d = enc v) : RE W Γ (.cst d) (some v) := fun v ev env L S Q X hl hs q => by cases ev; exact q _ S .refl (Pl.rd_iff.mpr e)
/-- another reading of what is read -/
theorem RE.as {α β : Type} [Rp α] [Rp β] {e : Ex} {o : Option α} (f : α → Option β) (H : ∀ v w d S, f v = some w → rd v d S → rd w d S) (h : RE W Γ e o) : RE W Γ e (o.bind f) := fun v ev env L S Q X hl hs q => by
  cases o with
  | none => cases ev
  | some w => exact h _ rfl env L S Q X hl hs fun d S' l r => q d S' l (H w v d S' ev r)
theorem RE.one {α : Type} [Rp α] {a : Ex} {oa : Option α} (ha : RE W Γ a oa) {x : α} (ea : oa = some x) {env : Env} {L : List HP} {S : Store} {Q : PQ} {X : PX} (hl : env.length = Γ.length) (hs : Sep (Rel Γ env ++ keep W.S0 :: L) S)
    (q : ∀ d S', Le S S' → rd x d S' → Sep (Rel Γ env ++ keep W.S0 :: L) S' → Q d S') : W.E a env S Q X := ha x ea env L S Q X hl hs fun d S' l r => q d S' l r (hs.le l)
theorem RE.two {α β : Type} [Rp α] [Rp β] {a b : Ex} {oa : Option α} {ob : Option β} (ha : RE W Γ a oa) (hb : RE W Γ b ob) {x : α} {y : β} (ea : oa = some x) (eb : ob = some y) {env : Env} {L : List HP} {S : Store} {Q : D → D → Store → Prop} {X : PX} (hl : env.length = Γ.length) (hs : Sep (Rel Γ env ++ keep W.S0 :: L) S)
    (q : ∀ d1 d2 S', Le S S' → rd x d1 S' → rd y d2 S' → Q d1 d2 S') : W.E a env S (fun d1 S1 => W.E b env S1 (fun d2 S2 => Q d1 d2 S2) X) X :=
  ha.one ea hl hs fun d1 S1 l1 r1 hs1 => hb.one eb hl hs1 fun d2 S2 l2 r2 _ => q d1 d2 S2 (l1.trans l2) (Rp.rd_up l2 r1) r2
theorem RE.binop {α β γ : Type} [Rp α] [Rp β] [Rp γ] {op : Bop} {a b : Ex} {oa : Option α} {ob : Option β} (f : α → β → Option γ)
    (H : ∀ x y z d1 d2 S Q, f x y = some z → rd x d1 S → rd y d2 S → (∀ d S', Le S S' → rd z d S' → Q d S') → wpBin op d1 d2 S Q)
    (ha : RE W Γ a oa) (hb : RE W Γ b ob) : RE W Γ (.bin op a b) (oa.bind fun x => ob.bind fun y => f x y) := fun v ev env L S Q X hl hs q => by
  cases ea : oa with
  | none => rw [ea] at ev; cases ev
  | some x =>
  cases eb : ob with
  | none => rw [ea, eb] at ev; cases ev
  | some y =>
  rw [ea, eb] at ev
  exact ha.two hb ea eb hl hs fun d1 d2 S' l r1 r2 => H x y v d1 d2 S' Q ev r1 r2 fun d S2 l2 r => q d S2 (l.trans l2) r
theorem RE.add {a b : Ex} {oa ob : Option Int} (ha : RE W Γ a oa) (hb : RE W Γ b ob) : RE W Γ (.bin .add a b) (oa.bind fun x => ob.bind fun y => some (x + y)) := .binop (fun x y => some (x + y)) (fun x y z d1 d2 S Q e r1 r2 q => by cases e; cases r1; cases r2; exact q _ S .refl rfl) ha hb
theorem RE.sub {a b : Ex} {oa ob : Option Int} (ha : RE W Γ a oa) (hb : RE W Γ b ob) : RE W Γ (.bin .sub a b) (oa.bind fun x => ob.bind fun y => some (x - y)) := .binop (fun x y => some (x - y)) (fun x y z d1 d2 S Q e r1 r2 q => by cases e; cases r1; cases r2; exact q _ S .refl rfl) ha hb
/-- what is asked is so -/
def ask (p : Prop) [Decidable p] {α : Type} (o : Option α) : Option α := if p then o else none
theorem ask_some {p : Prop} [Decidable p] {α : Type} {o : Option α} {v : α} (h : ask p o = some v) : p ∧ o = some v := by
  unfold ask at h
  split at h
  · rename_i q; exact ⟨q, h⟩
  · cases h
theorem ask_of {p : Prop} [Decidable p] {α : Type} {o : Option α} (h : p) : ask p o = o := if_pos h
abbrev mulO (x y : Int) : Option Int := ask (((-(2 ^ 64) < x ∧ x < 2 ^ 64) ∨ (-(2 ^ 64) < y ∧ y < 2 ^ 64)) ∨ x.natAbs.log2 + y.natAbs.log2 < 1000000) (some (x * y))
abbrev divO (x y : Int) : Option Int := ask (0 < y ∧ y < 1073741824) (some (x / y))
abbrev modO (x y : Int) : Option Int := ask (0 < y) (some (x % y))
abbrev powO (x y : Int) : Option Int := ask (0 ≤ y ∧ y ≤ 1000000 ∧ x.natAbs < 2 ^ 64) (some (x ^ y.toNat))
theorem RE.mul {a b : Ex} {oa ob : Option Int} (ha : RE W Γ a oa) (hb : RE W Γ b ob) : RE W Γ (.bin .mul a b) (oa.bind fun x => ob.bind fun y => mulO x y) := .binop mulO (fun x y z d1 d2 S Q e r1 r2 q => by obtain ⟨p, e⟩ := ask_some e; cases e; cases r1; cases r2; exact ⟨p, q _ S .refl rfl⟩) ha hb
theorem RE.fdiv {a b : Ex} {oa ob : Option Int} (ha : RE W Γ a oa) (hb : RE W Γ b ob) : RE W Γ (.bin .fdiv a b) (oa.bind fun x => ob.bind fun y => divO x y) := .binop divO (fun x y z d1 d2 S Q e r1 r2 q => by obtain ⟨p, e⟩ := ask_some e; cases e; cases r1; cases r2; exact ⟨p, q _ S .refl rfl⟩) ha hb
theorem RE.mod {a b : Ex} {oa ob : Option Int} (ha : RE W Γ a oa) (hb : RE W Γ b ob) : RE W Γ (.bin .mod a b) (oa.bind fun x => ob.bind fun y => modO x y) := .binop modO (fun x y z d1 d2 S Q e r1 r2 q => by obtain ⟨p, e⟩ := ask_some e; cases e; cases r1; cases r2; exact ⟨p, q _ S .refl rfl⟩) ha hb
theorem RE.pow {a b : Ex} {oa ob : Option Int} (ha : RE W Γ a oa) (hb : RE W Γ b ob) : RE W Γ (.bin .pow a b) (oa.bind fun x => ob.bind fun y => powO x y) := .binop powO (fun x y z d1 d2 S Q e r1 r2 q => by obtain ⟨p, e⟩ := ask_some e; cases e; cases r1; cases r2; exact ⟨p, q _ S .refl rfl⟩) ha hb
theorem RE.neg {a : Ex} {oa : Option Int} (ha : RE W Γ a oa) : RE W Γ (.neg a) (oa.bind fun x => some (-x)) := fun v ev env L S Q X hl hs q => by
  cases ea : oa with
  | none => rw [ea] at ev; cases ev
  | some x =>
  rw [ea] at ev
  cases ev
  exact ha.one ea hl hs fun d S' l r _ => by cases r; exact ⟨x, rfl, q _ S' l rfl⟩
theorem RE.no {a : Ex} {oa : Option Bool} (ha : RE W Γ a oa) : RE W Γ (.no a) (oa.bind fun x => some (!x)) := fun v ev env L S Q X hl hs q => by
  cases ea : oa with
  | none => rw [ea] at ev; cases ev
  | some x =>
  rw [ea] at ev
  cases ev
  exact ha.one ea hl hs fun d S' l r _ => by cases r; exact ⟨x, rfl, q _ S' l rfl⟩
theorem RE.an {a b : Ex} {oa ob : Option Bool} (ha : RE W Γ a oa) (hb : RE W Γ b ob) : RE W Γ (.an a b) (oa.bind fun x => bif x then ob else some false) := fun v ev env L S Q X hl hs q => by
  cases ea : oa with
  | none => rw [ea] at ev; cases ev
  | some x =>
  rw [ea] at ev
  refine ha.one ea hl hs fun d S' l r hs' => ?_
  cases r
  refine ⟨x, rfl, ?_⟩
  cases x with
  | true => rw [if_pos rfl]; exact hb v ev env L S' Q X hl hs' fun d S2 l2 r => q d S2 (l.trans l2) r
  | false => rw [if_neg Bool.false_ne_true]; cases ev; exact q _ S' l rfl
theorem RE.or {a b : Ex} {oa ob : Option Bool} (ha : RE W Γ a oa) (hb : RE W Γ b ob) : RE W Γ (.or a b) (oa.bind fun x => bif x then some true else ob) := fun v ev env L S Q X hl hs q => by
  cases ea : oa with
  | none => rw [ea] at ev; cases ev
  | some x =>
  rw [ea] at ev
  refine ha.one ea hl hs fun d S' l r hs' => ?_
  cases r
  refine ⟨x, rfl, ?_⟩
  cases x with
  | false => rw [if_neg Bool.false_ne_true]; exact hb v ev env L S' Q X hl hs' fun d S2 l2 r => q d S2 (l.trans l2) r
  | true => rw [if_pos rfl]; cases ev; exact q _ S' l rfl
theorem RE.ife {α : Type} [Rp α] {t a b : Ex} {ot : Option Bool} {oa ob : Option α} (ht : RE W Γ t ot) (ha : RE W Γ a oa) (hb : RE W Γ b ob) : RE W Γ (.ife t a b) (ot.bind fun c => bif c then oa else ob) := fun v ev env L S Q X hl hs q => by
  cases et : ot with
  | none => rw [et] at ev; cases ev
  | some x =>
  rw [et] at ev
  refine ht.one et hl hs fun d S' l r hs' => ?_
  cases r
  refine ⟨x, rfl, ?_⟩
  cases x with
  | true => rw [if_pos rfl]; exact ha v ev env L S' Q X hl hs' fun d S2 l2 r => q d S2 (l.trans l2) r
  | false => rw [if_neg Bool.false_ne_true]; exact hb v ev env L S' Q X hl hs' fun d S2 l2 r => q d S2 (l.trans l2) r
/-! comparisons -/
theorem RE.cmpop {α β : Type} [Rp α] [Rp β] {op : Cop} {a b : Ex} {oa : Option α} {ob : Option β} (f : α → β → Option Bool)
    (H : ∀ x y z d1 d2 S Q, f x y = some z → rd x d1 S → rd y d2 S → Q z → wpCop op d1 d2 S Q)
    (ha : RE W Γ a oa) (hb : RE W Γ b ob) : RE W Γ (.cmp op a b) (oa.bind fun x => ob.bind fun y => f x y) := fun v ev env L S Q X hl hs q => by
  cases ea : oa with
  | none => rw [ea] at ev; cases ev
  | some x =>
  cases eb : ob with
  | none => rw [ea, eb] at ev; cases ev
  | some y =>
  rw [ea, eb] at ev
  exact ha.two hb ea eb hl hs fun d1 d2 S' l r1 r2 => H x y v d1 d2 S' _ ev r1 r2 (q _ S' l rfl)
theorem RE.lt {a b : Ex} {oa ob : Option Int} (ha : RE W Γ a oa) (hb : RE W Γ b ob) : RE W Γ (.cmp .lt a b) (oa.bind fun x => ob.bind fun y => some (decide (x < y))) := .cmpop (fun x y => some (decide (x < y))) (fun x y z d1 d2 S Q e r1 r2 q => by cases e; cases r1; cases r2; exact q) ha hb
theorem RE.gt {a b : Ex} {oa ob : Option Int} (ha : RE W Γ a oa) (hb : RE W Γ b ob) : RE W Γ (.cmp .gt a b) (oa.bind fun x => ob.bind fun y => some (decide (y < x))) := .cmpop (fun x y => some (decide (y < x))) (fun x y z d1 d2 S Q e r1 r2 q => by cases e; cases r1; cases r2; exact q) ha hb
theorem RE.le {a b : Ex} {oa ob : Option Int} (ha : RE W Γ a oa) (hb : RE W Γ b ob) : RE W Γ (.cmp .le a b) (oa.bind fun x => ob.bind fun y => some (decide (x ≤ y))) := .cmpop (fun x y => some (decide (x ≤ y))) (fun x y z d1 d2 S Q e r1 r2 q => by cases e; cases r1; cases r2; exact q) ha hb
theorem RE.ge {a b : Ex} {oa ob : Option Int} (ha : RE W Γ a oa) (hb : RE W Γ b ob) : RE W Γ (.cmp .ge a b) (oa.bind fun x => ob.bind fun y => some (decide (y ≤ x))) := .cmpop (fun x y => some (decide (y ≤ x))) (fun x y z d1 d2 S Q e r1 r2 q => by cases e; cases r1; cases r2; exact q) ha hb
/-- things that are compared by what they are -/
class Eqd (α : Type) extends Rp α where
  dec : DecidableEq α
  eqd : ∀ {x y : α} {d1 d2 : D} {S : Store} {Q : Bool → Prop}, rd x d1 S → rd y d2 S → Q (decide (x = y)) → wpEq d1 d2 S Q
instance {α : Type} [h : Eqd α] : DecidableEq α := h.dec
theorem RE.eq {α : Type} [Eqd α] {a b : Ex} {oa ob : Option α} (ha : RE W Γ a oa) (hb : RE W Γ b ob) : RE W Γ (.cmp .eq a b) (oa.bind fun x => ob.bind fun y => some (decide (x = y))) := .cmpop (fun x y => some (decide (x = y))) (fun x y z d1 d2 S Q e r1 r2 q => by cases e; exact Eqd.eqd r1 r2 q) ha hb
theorem RE.ne {α : Type} [Eqd α] {a b : Ex} {oa ob : Option α} (ha : RE W Γ a oa) (hb : RE W Γ b ob) : RE W Γ (.cmp .ne a b) (oa.bind fun x => ob.bind fun y => some (!decide (x = y))) := .cmpop (fun x y => some (!decide (x = y))) (fun x y z d1 d2 S Q e r1 r2 q => by cases e; exact Eqd.eqd (Q := fun b => Q (!b)) r1 r2 q) ha hb
/-- a <= b <= c -/
theorem RE.chn {a b c : Ex} {oa ob oc : Option Int} (o o' : Cop) (f g : Int → Int → Bool) (H : ∀ x y S Q, Q (f x y) → wpCop o (.int x) (.int y) S Q) (H' : ∀ x y S Q, Q (g x y) → wpCop o' (.int x) (.int y) S Q)
    (ha : RE W Γ a oa) (hb : RE W Γ b ob) (hc : RE W Γ c oc) : RE W Γ (.chn o o' a b c) (oa.bind fun x => ob.bind fun y => bif f x y then oc.bind fun z => some (g y z) else some false) := fun v ev env L S Q X hl hs q => by
  cases ea : oa with
  | none => rw [ea] at ev; cases ev
  | some x =>
  cases eb : ob with
  | none => rw [ea, eb] at ev; cases ev
  | some y =>
  rw [ea, eb] at ev
  refine ha.one ea hl hs fun d1 S1 l1 r1 hs1 => hb.one eb hl hs1 fun d2 S2 l2 r2 hs2 => ?_
  cases r1
  cases r2
  refine H x y S2 _ ⟨_, rfl, ?_⟩
  have ev : (bif f x y then oc.bind fun z => some (g y z) else some false) = some v := ev
  cases hf : f x y with
  | false =>
    rw [hf] at ev
    rw [if_neg Bool.false_ne_true]
    cases ev
    exact q _ S2 (l1.trans l2) rfl
  | true =>
    rw [hf] at ev
    rw [if_pos rfl]
    cases ec : oc with
    | none => rw [ec] at ev; cases ev
    | some z =>
    rw [ec] at ev
    cases ev
    refine hc.one ec hl hs2 fun d3 S3 l3 r3 hs3 => ?_
    cases r3
    exact H' y z S3 _ (q _ S3 ((l1.trans l2).trans l3) rfl)
theorem RE.lele {a b c : Ex} {oa ob oc : Option Int} (ha : RE W Γ a oa) (hb : RE W Γ b ob) (hc : RE W Γ c oc) : RE W Γ (.chn .le .le a b c) (oa.bind fun x => ob.bind fun y => bif decide (x ≤ y) then oc.bind fun z => some (decide (y ≤ z)) else some false) := .chn .le .le _ _ (fun _ _ _ _ q => q) (fun _ _ _ _ q => q) ha hb hc
end
end SW
/-! J, part C: reading structures, built-ins, equality. -/
namespace SW
open PySem L2
open Rp (own rd)
open Pl (enc)
theorem ats_get {rs : List (D → HP)} : ∀ {ds : List D} {h : Store} {i : Nat} {r : D → HP}, Ats rs ds h → rs[i]? = some r → ∃ d, ds[i]? = some d ∧ r d h := by
  induction rs with
  | nil => intro ds h i r z e; cases e
  | cons q rs ih =>
    intro ds h i r z e
    cases ds with
    | nil => exact z.elim
    | cons d ds =>
      cases i with
      | zero => cases e; exact ⟨d, rfl, z.1⟩
      | succ i =>
        obtain ⟨d', e', r⟩ := ih z.2 (i := i) e
        exact ⟨d', e', r⟩
theorem ats_at {α : Type} [Rp α] {xs : List α} {ds : List D} {h : Store} {i : Int} {x : α} (z : Ats (xs.map rd) ds h) (e : atI xs i = some x) : ∃ d, atI ds i = some d ∧ rd x d h := by
  have hl := z.len
  rw [List.length_map] at hl
  unfold atI at e ⊢
  rw [← hl]
  cases q : ixN xs.length i with
  | none => rw [q] at e; cases e
  | some j =>
    rw [q] at e
    exact ats_get z (by
      show (xs.map rd)[j]? = _
      have e : xs[j]? = some x := e
      rw [List.getElem?_map, e]
      rfl)
/-! dicts -/
variable {κ α : Type}
def lg [DecidableEq κ] : List (κ × α) → κ → Option α
  | [], _ => none
  | (q, v) :: r, k => if q = k then some v else lg r k
def lp [DecidableEq κ] : List (κ × α) → κ → α → List (κ × α)
  | [], k, v => [(k, v)]
  | (q, u) :: r, k, v => if q = k then (q, v) :: r else (q, u) :: lp r k v
def ld [DecidableEq κ] : List (κ × α) → κ → List (κ × α)
  | [], _ => []
  | (q, u) :: r, k => if q = k then r else (q, u) :: ld r k
def dg [DecidableEq κ] (x : Dct κ α) (k : κ) : Option α := lg x.l k
def dp [DecidableEq κ] (x : Dct κ α) (k : κ) (v : α) : Dct κ α := lp x.l k v
def dd [DecidableEq κ] (x : Dct κ α) (k : κ) : Dct κ α := ld x.l k
def d0 : Dct κ α := ([] : List (κ × α))
theorem eqk_dec [Ky κ] [DecidableEq κ] (q k : κ) : eqK (enc q) (enc k) = decide (q = k) := by
  rw [Bool.eq_iff_iff, decide_eq_true_eq]
  exact Ky.eqk q k
theorem dg_get [Ky κ] [Rp α] [DecidableEq κ] {k : κ} {h : Store} : ∀ {x : Dct κ α} {ds : List D}, Ats (x.l.map fun p => rd p.2) ds h → (∀ v, dg x k = some v → ∃ d, getK (enc k) (kds x ds) = some d ∧ rd v d h) ∧ (dg x k = none → getK (enc k) (kds x ds) = none) := by
  intro x
  unfold dg kds
  generalize x.l = l
  clear x
  induction l with
  | nil =>
    intro ds z
    cases ds with
    | nil => exact ⟨fun _ e => (by cases e), fun _ => rfl⟩
    | cons => exact z.elim
  | cons p r ih =>
    intro ds z
    obtain ⟨q, v⟩ := p
    cases ds with
    | nil => exact z.elim
    | cons d ds =>
      obtain ⟨i1, i2⟩ := ih z.2
      have e : getK (enc k) (List.zip (((q, v) :: r).map fun p => enc p.1) (d :: ds)) = if q = k then some d else getK (enc k) (List.zip (r.map fun p => enc p.1) ds) := by
        show (if eqK (enc q) (enc k) = true then some d else _) = _
        rw [eqk_dec]
        by_cases c : q = k
        · rw [if_pos c, decide_eq_true c, if_pos rfl]
        · rw [if_neg c, decide_eq_false c, if_neg Bool.false_ne_true]; rfl
      rw [e]
      show (∀ w, (if q = k then some v else lg r k) = some w → _) ∧ ((if q = k then some v else lg r k) = none → _)
      by_cases c : q = k
      · rw [if_pos c, if_pos c]
        exact ⟨fun w ew => (by cases ew; exact ⟨d, rfl, z.1⟩), fun ew => (by cases ew)⟩
      · rw [if_neg c, if_neg c]
        exact ⟨i1, i2⟩
section
variable {W : Wo} {Γ : Cx}
/-- a part of a tuple -/
theorem RE.tix {α β : Type} [Pl α] [Pl β] {i : Int} {e : Ex} {o : Option α} (get : α → β) (H : ∀ v : α, ∃ ds, enc v = .tup ds ∧ atI ds i = some (enc (get v))) (h : RE W Γ e o) : RE W Γ (.ix e (.cst (.int i))) (o.bind fun v => some (get v)) := fun v ev env L S Q X hl hs q => by
  cases eo : o with
  | none => rw [eo] at ev; cases ev
  | some x =>
  rw [eo] at ev
  cases ev
  refine h.one eo hl hs fun d S' l r _ => ?_
  obtain ⟨ds, e1, e2⟩ := H x
  have e := Pl.rd_iff.mp r
  rw [e, e1]
  exact ⟨i, _, rfl, e2, q _ S' l (Pl.rd_iff.mpr rfl)⟩
theorem RE.ixop {α β γ : Type} [Rp α] [Rp β] [Rp γ] {a b : Ex} {oa : Option α} {ob : Option β} (f : α → β → Option γ)
    (H : ∀ x y z d1 d2 S Q, f x y = some z → rd x d1 S → rd y d2 S → (∀ d, rd z d S → Q d) → wpIx d1 d2 S Q)
    (ha : RE W Γ a oa) (hb : RE W Γ b ob) : RE W Γ (.ix a b) (oa.bind fun x => ob.bind fun y => f x y) := fun v ev env L S Q X hl hs q => by
  cases ea : oa with
  | none => rw [ea] at ev; cases ev
  | some x =>
  cases eb : ob with
  | none => rw [ea, eb] at ev; cases ev
  | some y =>
  rw [ea, eb] at ev
  exact ha.two hb ea eb hl hs fun d1 d2 S' l r1 r2 => H x y v d1 d2 S' _ ev r1 r2 fun d r => q d S' l r
theorem RE.lix {α : Type} [Rp α] {a b : Ex} {oa : Option (List α)} {ob : Option Int} (ha : RE W Γ a oa) (hb : RE W Γ b ob) : RE W Γ (.ix a b) (oa.bind fun x => ob.bind fun y => atI x y) := .ixop atI (fun x y z d1 d2 S Q e r1 r2 q => by
  cases r2
  obtain ⟨a, ds, rfl, e1, r1⟩ := r1
  obtain ⟨d, e2, r⟩ := ats_at r1 e
  exact .inl ⟨ds, y, d, e1, rfl, e2, q d r⟩) ha hb
theorem RE.tlix {α : Type} [Pl α] {a b : Ex} {oa : Option (Tl α)} {ob : Option Int} (ha : RE W Γ a oa) (hb : RE W Γ b ob) : RE W Γ (.ix a b) (oa.bind fun x => ob.bind fun y => atI x.l y) := .ixop (fun x y => atI x.l y) (fun x y z d1 d2 S Q e r1 r2 q => by
  cases r2
  cases r1
  obtain ⟨d, e2, r⟩ := ats_at (ats_pl.mpr rfl : Ats (x.l.map rd) (x.l.map enc) S) e
  exact ⟨y, d, rfl, e2, q d r⟩) ha hb
theorem RE.dix {κ α : Type} [Ky κ] [DecidableEq κ] [Rp α] {a b : Ex} {oa : Option (Dct κ α)} {ob : Option κ} (ha : RE W Γ a oa) (hb : RE W Γ b ob) : RE W Γ (.ix a b) (oa.bind fun x => ob.bind fun y => dg x y) := .ixop dg (fun x y z d1 d2 S Q e r1 r2 q => by
  have e2 := Pl.rd_iff.mp r2
  subst e2
  obtain ⟨_, a, ds, rfl, e1, r1⟩ := r1
  obtain ⟨d, e3, r⟩ := (dg_get r1).1 z e
  exact .inr ⟨_, d, rd_dicC e1, Ky.key y, e3, q d r⟩) ha hb
theorem RE.notinD {κ α : Type} [Ky κ] [DecidableEq κ] [Rp α] {a b : Ex} {oa : Option (Dct κ α)} {ob : Option κ} (hb : RE W Γ b ob) (ha : RE W Γ a oa) : RE W Γ (.cmp .notin b a) (ob.bind fun y => oa.bind fun x => some (dg x y).isNone) := .cmpop (fun y x => some (dg x y).isNone) (fun y x z d2 d1 S Q e r2 r1 q => by
  have e2 := Pl.rd_iff.mp r2
  subst e2
  cases e
  obtain ⟨_, a, ds, rfl, e1, r1⟩ := r1
  refine .inr ⟨_, rd_dicC e1, Ky.key y, ?_⟩
  cases c : dg x y with
  | none => rw [(dg_get r1).2 c]; rw [c] at q; exact q
  | some v =>
    obtain ⟨d, e3, _⟩ := (dg_get r1).1 v c
    rw [e3]; rw [c] at q; exact q) hb ha
class Fl (α : Type) extends Pl α where
  fl : ∀ x : α, flatD (enc x) = true
  feq : ∀ x y : α, eqF (enc x) (enc y) = true ↔ x = y
instance : Fl Int where
  fl _ := rfl
  feq x y := by show (x == y) = true ↔ _; exact beq_iff_eq
instance : Fl Str where
  fl _ := rfl
  feq x y := by show (x == y) = true ↔ _; exact beq_iff_eq
theorem inF_mem {α : Type} [Fl α] [DecidableEq α] (x : α) (xs : List α) : inF (enc x) (xs.map enc) = decide (x ∈ xs) := by
  rw [Bool.eq_iff_iff, decide_eq_true_eq]
  unfold inF
  rw [List.any_eq_true]
  constructor
  · rintro ⟨d, hd, e⟩
    obtain ⟨y, hy, rfl⟩ := List.mem_map.mp hd
    rw [← (Fl.feq y x).mp e]
    exact hy
  · intro h
    exact ⟨_, List.mem_map.mpr ⟨x, h, rfl⟩, (Fl.feq x x).mpr rfl⟩
theorem fl_all {α : Type} [Fl α] {xs : List α} : ∀ z ∈ xs.map enc, flatD z = true := fun z hz => by
  obtain ⟨y, _, rfl⟩ := List.mem_map.mp hz
  exact Fl.fl y
theorem in_rd {α : Type} [Fl α] [DecidableEq α] {x : α} {xs : List α} {d1 d2 : D} {S : Store} {Q : Bool → Prop} (r1 : rd x d1 S) (r2 : (∃ a ds, d2 = .ref a ∧ S a = some (.lst ds) ∧ Ats (xs.map rd) ds S) ∨ (∃ ds, d2 = .tup ds ∧ Ats (xs.map rd) ds S)) (q : Q (decide (x ∈ xs))) : wpIn d1 d2 S Q := by
  have e1 := Pl.rd_iff.mp r1
  subst e1
  rcases r2 with ⟨a, ds, rfl, e, r⟩ | ⟨ds, rfl, r⟩
  · have e2 := ats_pl.mp r
    subst e2
    exact .inl ⟨_, e, Fl.fl x, fl_all, by rw [inF_mem]; exact q⟩
  · have e2 := ats_pl.mp r
    subst e2
    exact ⟨Fl.fl x, fl_all, by rw [inF_mem]; exact q⟩
end
/-- e reads as a list in a cell -/
def LL {α : Type} [Rp α] (W : Wo) (Γ : Cx) (e : Ex) (o : Option (List α)) : Prop := ∀ v, o = some v → ∀ env L S Q X, env.length = Γ.length → Sep (Rel Γ env ++ keep W.S0 :: L) S →
  (∀ a ds S', Le S S' → S' a = some (.lst ds) → Ats (v.map rd) ds S' → Q (.ref a) S') → W.E e env S Q X
section
variable {W : Wo} {Γ : Cx}
theorem LL.re {α : Type} [Rp α] {e : Ex} {o : Option (List α)} (h : LL W Γ e o) : RE W Γ e o := fun v ev env L S Q X hl hs q => h v ev env L S Q X hl hs fun a ds S' l e r => q _ S' l ⟨a, ds, rfl, e, r⟩
theorem RE.ll {α : Type} [Rp α] {e : Ex} {o : Option (List α)} (h : RE W Γ e o) : LL W Γ e o := fun v ev env L S Q X hl hs q => h v ev env L S Q X hl hs fun d S' l r => by
  obtain ⟨a, ds, rfl, c, r⟩ := r
  exact q a ds S' l c r
theorem VE.ll {α : Type} [Rp α] {e : Ex} {o : Option (List α)} (h : VE W Γ e o) : LL W Γ e o := fun v ev env L S Q X hl hs q => h v ev env L S Q X hl hs fun d S' l n => by
  obtain ⟨k, ⟨a, ds, rfl, z⟩, b, _⟩ := n
  have z := z.le b
  refine q a ds S' l z.get ?_
  obtain ⟨h1, h2, _, _, l2, _, h3, h4, _, l3, _, p, _⟩ := z
  exact ats_rd_up (l3.trans l2) (ats_own p)
/-- entries whose list is in a cell -/
def EntL {α : Type} [Rp α] (S0 : Store) (r : D → HP) (v : List α) : Prop := ∀ d h S, r d h → Le h S → Le S0 S → ∃ a ds, d = .ref a ∧ S a = some (.lst ds) ∧ Ats (v.map rd) ds S
theorem own_cell {α : Type} [Rp α] {v : List α} {d : D} {h : Store} (z : own v d h) : ∃ a ds, d = .ref a ∧ h a = some (.lst ds) ∧ Ats (v.map rd) ds h := by
  obtain ⟨a, ds, e, z⟩ := z
  refine ⟨a, ds, e, z.get, ?_⟩
  obtain ⟨h1, h2, _, _, l2, _, h3, h4, _, l3, _, p, _⟩ := z
  exact ats_rd_up (l3.trans l2) (ats_own p)
theorem EntL.own {α : Type} [Rp α] {S0 : Store} {v : List α} : EntL S0 (own v) v := fun _ _ _ z l _ => by
  obtain ⟨a, ds, e, c, r⟩ := own_cell z
  exact ⟨a, ds, e, l _ _ c, ats_rd_up l r⟩
theorem EntL.pin {α : Type} [Rp α] {S0 : Store} {v : List α} {d0 : D} : EntL S0 (pin d0 v) v := fun _ _ _ z l _ => by
  obtain ⟨a, ds, e, c, r⟩ := own_cell z.2
  exact ⟨a, ds, e, l _ _ c, ats_rd_up l r⟩
theorem LL.var {α : Type} [Rp α] {i : Nat} {r : D → HP} {v : List α} (e : Γ[i]? = some (some r)) (h : EntL W.S0 r v) : LL W Γ (.var i) (some v) := fun v' ev env L S Q X hl hs q => by
  cases ev
  obtain ⟨d, ed, z⟩ := Rel.take e hl hs
  obtain ⟨h1, h2, _, l1, l2, a, t⟩ := z
  obtain ⟨p, ds, e1, c, r⟩ := h d h1 S a l1 (keep_le hs)
  subst e1
  exact ⟨_, ed, q p ds S .refl c r⟩
theorem RE.inL {α : Type} [Fl α] [DecidableEq α] {a b : Ex} {oa : Option (List α)} {ob : Option α} (hb : RE W Γ b ob) (ha : LL W Γ a oa) : RE W Γ (.cmp .in_ b a) (ob.bind fun y => oa.bind fun x => some (decide (y ∈ x))) := fun v ev env L S Q X hl hs q => by
  cases eb : ob with
  | none => rw [eb] at ev; cases ev
  | some y =>
  cases ea : oa with
  | none => rw [ea, eb] at ev; cases ev
  | some x =>
  rw [ea, eb] at ev
  cases ev
  exact hb.one eb hl hs fun d1 S1 l1 r1 hs1 => ha x ea env L S1 _ X hl hs1 fun a ds S2 l2 c r => in_rd (Q := fun c => Q (.bl c) S2) (Rp.rd_up l2 r1) (.inl ⟨a, ds, rfl, c, r⟩) (q _ S2 (l1.trans l2) rfl)
theorem RE.notinL {α : Type} [Fl α] [DecidableEq α] {a b : Ex} {oa : Option (List α)} {ob : Option α} (hb : RE W Γ b ob) (ha : LL W Γ a oa) : RE W Γ (.cmp .notin b a) (ob.bind fun y => oa.bind fun x => some (!decide (y ∈ x))) := fun v ev env L S Q X hl hs q => by
  cases eb : ob with
  | none => rw [eb] at ev; cases ev
  | some y =>
  cases ea : oa with
  | none => rw [ea, eb] at ev; cases ev
  | some x =>
  rw [ea, eb] at ev
  cases ev
  exact hb.one eb hl hs fun d1 S1 l1 r1 hs1 => ha x ea env L S1 _ X hl hs1 fun a ds S2 l2 c r => in_rd (Q := fun c => Q (.bl (!c)) S2) (Rp.rd_up l2 r1) (.inl ⟨a, ds, rfl, c, r⟩) (q _ S2 (l1.trans l2) rfl)
theorem RE.notinT {α : Type} [Fl α] [DecidableEq α] {a b : Ex} {oa : Option (Tl α)} {ob : Option α} (hb : RE W Γ b ob) (ha : RE W Γ a oa) : RE W Γ (.cmp .notin b a) (ob.bind fun y => oa.bind fun x => some (!decide (y ∈ x.l))) := .cmpop (fun y x => some (!decide (y ∈ x.l))) (fun y x z d2 d1 S Q e r2 r1 q => by
  cases e
  cases r1
  exact in_rd (Q := fun c => Q (!c)) r2 (.inr ⟨_, rfl, ats_pl.mpr rfl⟩) q) hb ha
/-! built-ins of one thing -/
theorem RE.blt1 {α β : Type} [Rp α] [Rp β] {b : Blt} {e : Ex} {o : Option α} (f : α → Option β) (H : ∀ x z d S Q, f x = some z → rd x d S → (∀ d' S', Le S S' → rd z d' S' → Q d' S') → wpBlt b [d] S Q) (h : RE W Γ e o) : RE W Γ (.blt b (.cons e .nil)) (o.bind f) := fun v ev env L S Q X hl hs q => by
  cases eo : o with
  | none => rw [eo] at ev; cases ev
  | some x =>
  rw [eo] at ev
  exact h.one eo hl hs fun d S' l r _ => H x v d S' Q ev r fun d' S2 l2 r2 => q d' S2 (l.trans l2) r2
theorem VE.blt1 {α β : Type} [Rp α] [Rp β] {b : Blt} {e : Ex} {o : Option α} (f : α → Option β) (H : ∀ x z d S Q, f x = some z → rd x d S → (∀ d' S', Le S S' → New (own z d') S S' → Q d' S') → wpBlt b [d] S Q) (h : RE W Γ e o) : VE W Γ (.blt b (.cons e .nil)) (o.bind f) := fun v ev env L S Q X hl hs q => by
  cases eo : o with
  | none => rw [eo] at ev; cases ev
  | some x =>
  rw [eo] at ev
  exact h.one eo hl hs fun d S' l r _ => H x v d S' Q ev r fun d' S2 l2 r2 => q d' S2 (l.trans l2) (r2.trans l)
theorem RE.lenL {α : Type} [Rp α] {e : Ex} {o : Option (List α)} (h : RE W Γ e o) : RE W Γ (.blt .len (.cons e .nil)) (o.bind fun x => some (x.length : Int)) := .blt1 _ (fun x z d S Q e r q => by
  cases e
  obtain ⟨a, ds, rfl, e1, r1⟩ := r
  have hl := r1.len
  rw [List.length_map] at hl
  exact .inl ⟨ds, e1, by rw [← hl]; exact q _ S .refl rfl⟩) h
theorem RE.lenT {α : Type} [Pl α] {e : Ex} {o : Option (Tl α)} (h : RE W Γ e o) : RE W Γ (.blt .len (.cons e .nil)) (o.bind fun x => some (x.l.length : Int)) := .blt1 _ (fun x z d S Q e r q => by
  cases e
  cases r
  exact ⟨_, rfl, by rw [List.length_map]; exact q _ S .refl rfl⟩) h
theorem LL.blt1 {α β : Type} [Rp α] [Rp β] {b : Blt} {e : Ex} {o : Option (List α)} (f : List α → Option β) (H : ∀ x z a ds S Q, f x = some z → S a = some (.lst ds) → Ats (x.map rd) ds S → (∀ d' S', Le S S' → rd z d' S' → Q d' S') → wpBlt b [.ref a] S Q) (h : LL W Γ e o) : RE W Γ (.blt b (.cons e .nil)) (o.bind f) := fun v ev env L S Q X hl hs q => by
  cases eo : o with
  | none => rw [eo] at ev; cases ev
  | some x =>
  rw [eo] at ev
  exact h x eo env L S _ X hl hs fun a ds S' l c r => H x v a ds S' Q ev c r fun d' S2 l2 r2 => q d' S2 (l.trans l2) r2
theorem LL.bltV {α β : Type} [Rp α] [Rp β] {b : Blt} {e : Ex} {o : Option (List α)} (f : List α → Option β) (H : ∀ x z a ds S Q, f x = some z → S a = some (.lst ds) → Ats (x.map rd) ds S → (∀ d' S', Le S S' → New (own z d') S S' → Q d' S') → wpBlt b [.ref a] S Q) (h : LL W Γ e o) : VE W Γ (.blt b (.cons e .nil)) (o.bind f) := fun v ev env L S Q X hl hs q => by
  cases eo : o with
  | none => rw [eo] at ev; cases ev
  | some x =>
  rw [eo] at ev
  exact h x eo env L S _ X hl hs fun a ds S' l c r => H x v a ds S' Q ev c r fun d' S2 l2 r2 => q d' S2 (l.trans l2) (r2.trans l)
/-- a new list of plain things -/
theorem New.lst {α : Type} [Pl α] {xs : List α} {S : Store} {p : Addr} (h : S p = none) : New (own xs (.ref p)) S (S.upd p (.lst (xs.map enc))) :=
  .one h fun k e => ⟨p, xs.map enc, rfl, ⟨k, fun _ => none, fun _ => .inr rfl, .refl, (fun _ _ z => by cases z), e, ⟨fun _ => none, fun _ => none, fun _ => .inr rfl, .refl, .refl, pts_pl.mpr rfl, trivial⟩⟩⟩
theorem sort_of {ns ns' : List Int} (h1 : ns'.Perm ns) (h2 : ns'.Pairwise (· ≤ ·)) : ns' = sortI ns := sortI_eq h1 h2
theorem VE.sortL {e : Ex} {o : Option (List Int)} (h : LL W Γ e o) : VE W Γ (.blt .sorted (.cons e .nil)) (o.bind fun x => some (sortI x)) := LL.bltV _ (fun x z a ds S Q e c r q => by
  cases e
  have e2 := ats_pl.mp r
  subst e2
  refine .inl ⟨_, x, c, ints_of x, fun ns' p h1 h2 hp => ?_⟩
  rw [sort_of h1 h2]
  exact q _ _ (.upd hp) (.lst hp)) h
theorem VE.listL {α : Type} [Pl α] {e : Ex} {o : Option (List α)} (h : LL W Γ e o) : VE W Γ (.blt .list (.cons e .nil)) (o.bind fun x => some x) := LL.bltV _ (fun x z a ds S Q e c r q => by
  cases e
  have e2 := ats_pl.mp r
  subst e2
  exact .inl ⟨_, c, fun p hp => q _ _ (.upd hp) (.lst hp)⟩) h
theorem RE.tupL {α : Type} [Pl α] {e : Ex} {o : Option (List α)} (h : LL W Γ e o) : RE W Γ (.blt .tuple (.cons e .nil)) (o.bind fun x => some (⟨x⟩ : Tl α)) := LL.blt1 _ (fun x z a ds S Q e c r q => by
  cases e
  have e2 := ats_pl.mp r
  subst e2
  exact ⟨_, seq_ref c, q _ S .refl rfl⟩) h
end
end SW
/-! J, part D: fields, calls, displays, walks, comprehensions. -/
namespace SW
open PySem L2
open Rp (own rd)
open Pl (enc)
/-- a field of what reads as v -/
def FR {α β : Type} [Rp α] [Rp β] (f : Nat) (get : α → β) : Prop := ∀ v d S, rd v d S → ∃ a c fs d', d = .ref a ∧ S a = some (.ins c fs) ∧ fs.lookup f = some d' ∧ rd (get v) d' S
/-- things of a class -/
def Ob (α : Type) [Rp α] (c : Nat) : Prop := ∀ (v : α) d S, rd v d S → ∃ a fs, d = .ref a ∧ S a = some (.ins c fs)
/-- a def that makes a new thing, and changes nothing -/
def SpV {ρ : Type} [Rp ρ] (P : Prg) (T : Nat → Option FD) (n f : Nat) (rs : List (D → HP)) (o : Option ρ) : Prop :=
  ∀ k, n ≤ k → ∀ v, o = some v → ∀ ds S Q X, Ats rs ds S → (∀ d S', Le S S' → New (own v d) S S' → Q d S') → run P T k f ds S Q X
/-- a def that tells what stands in what it is handed -/
def SpR {ρ : Type} [Rp ρ] (P : Prg) (T : Nat → Option FD) (n f : Nat) (rs : List (D → HP)) (o : Option ρ) : Prop :=
  ∀ k, n ≤ k → ∀ v, o = some v → ∀ ds S Q X, Ats rs ds S → (∀ d S', Le S S' → rd v d S' → Q d S') → run P T k f ds S Q X
/-- a maker -/
def SpI {ρ : Type} [Rp ρ] (P : Prg) (T : Nat → Option FD) (n c : Nat) (rs : List (D → HP)) (o : Option ρ) : Prop :=
  ∀ k, n ≤ k → ∀ v, o = some v → ∀ (ds : List D) (S : Store) (Q : PQ) (X : PX), Ats rs ds S → (∀ d S', Le S S' → New (own v d) S S' → Q d S') → ∃ f, P.init c = some f ∧ ∀ p, S p = none → runM P T k f (.ref p :: ds) (S.upd p (.ins c [])) (fun v S2 => v = .non ∧ Q (.ref p) S2) X
theorem SpV.r {ρ : Type} [Rp ρ] {P : Prg} {T : Nat → Option FD} {n f : Nat} {rs : List (D → HP)} {o : Option ρ} (h : SpV P T n f rs o) : SpR P T n f rs o := fun k hk v ev ds S Q X ha q => h k hk v ev ds S Q X ha fun d S' l n => q d S' l n.rdd
/-- what is handed in, read -/
def RAs {τ : Type} (W : Wo) (Γ : Cx) (es : Exs) (o : Option τ) (rs : τ → List (D → HP)) : Prop := ∀ v, o = some v → ∀ env L S Q X, env.length = Γ.length → Sep (Rel Γ env ++ keep W.S0 :: L) S →
  (∀ ds S', Le S S' → Ats (rs v) ds S' → (∀ r ∈ rs v, ∀ d h h', Le h h' → r d h → r d h') → Q ds S') → W.Es es env S Q X
section
variable {W : Wo} {Γ : Cx}
theorem RAs.nil : RAs W Γ .nil (some ()) (fun _ => []) := fun v ev env L S Q X hl hs q => q [] S .refl trivial (fun _ m => by cases m)
theorem RAs.cons {α τ : Type} [Rp α] {e : Ex} {es : Exs} {oa : Option α} {o : Option τ} {rs : τ → List (D → HP)} (ha : RE W Γ e oa) (h : RAs W Γ es o rs) : RAs W Γ (.cons e es) (oa.bind fun x => o.bind fun v => some (x, v)) (fun p => rd p.1 :: rs p.2) := fun v ev env L S Q X hl hs q => by
  cases ea : oa with
  | none => rw [ea] at ev; cases ev
  | some x =>
  cases eo : o with
  | none => rw [ea, eo] at ev; cases ev
  | some y =>
  rw [ea, eo] at ev
  cases ev
  exact ha.one ea hl hs fun d S1 l1 r1 hs1 => h y eo env L S1 _ X hl hs1 fun ds S2 l2 r2 up => q (d :: ds) S2 (l1.trans l2) ⟨Rp.rd_up l2 r1, r2⟩ fun r m => by
    rcases List.mem_cons.mp m with e | m
    · subst e; exact fun d h h' l z => Rp.rd_up l z
    · exact up r m
theorem VE.call {τ ρ : Type} [Rp ρ] {f n : Nat} {es : Exs} {o : Option τ} {rs : τ → List (D → HP)} {g : τ → Option ρ} (h : RAs W Γ es o rs) (sp : ∀ v, SpV W.P W.T n f (rs v) (g v)) (hj : n ≤ W.j) : VE W Γ (.call f es) (o.bind g) := fun v ev env L S Q X hl hs q => by
  cases eo : o with
  | none => rw [eo] at ev; cases ev
  | some x =>
  rw [eo] at ev
  exact h x eo env L S _ X hl hs fun ds S1 l1 r1 _ => sp x W.j hj v ev ds S1 Q X r1 fun d S' l n => q d S' (l1.trans l) (n.trans l1)
theorem RE.call {τ ρ : Type} [Rp ρ] {f n : Nat} {es : Exs} {o : Option τ} {rs : τ → List (D → HP)} {g : τ → Option ρ} (h : RAs W Γ es o rs) (sp : ∀ v, SpR W.P W.T n f (rs v) (g v)) (hj : n ≤ W.j) : RE W Γ (.call f es) (o.bind g) := fun v ev env L S Q X hl hs q => by
  cases eo : o with
  | none => rw [eo] at ev; cases ev
  | some x =>
  rw [eo] at ev
  exact h x eo env L S _ X hl hs fun ds S1 l1 r1 _ => sp x W.j hj v ev ds S1 Q X r1 fun d S' l n => q d S' (l1.trans l) n
theorem VE.meth {α τ ρ : Type} [Rp α] [Rp ρ] {c m f n : Nat} {a : Ex} {es : Exs} {oa : Option α} {o : Option τ} {rs : τ → List (D → HP)} {g : α → τ → Option ρ} (hc : Ob α c) (hm : W.P.meth c m = some f) (ha : RE W Γ a oa) (h : RAs W Γ es o rs) (sp : ∀ x v, SpV W.P W.T n f (rd x :: rs v) (g x v)) (hj : n ≤ W.j) : VE W Γ (.meth a m es) (oa.bind fun x => o.bind fun v => g x v) := fun v ev env L S Q X hl hs q => by
  cases ea : oa with
  | none => rw [ea] at ev; cases ev
  | some x =>
  cases eo : o with
  | none => rw [ea, eo] at ev; cases ev
  | some y =>
  rw [ea, eo] at ev
  refine ha.one ea hl hs fun d S1 l1 r1 hs1 => ?_
  obtain ⟨p, fs, rfl, e1⟩ := hc x d S1 r1
  exact ⟨p, c, fs, f, rfl, e1, hm, h y eo env L S1 _ X hl hs1 fun ds S2 l2 r2 _ => sp x y W.j hj v ev (.ref p :: ds) S2 Q X ⟨Rp.rd_up l2 r1, r2⟩ fun d S' l n => q d S' ((l1.trans l2).trans l) ((n.trans l2).trans l1)⟩
theorem RE.meth {α τ ρ : Type} [Rp α] [Rp ρ] {c m f n : Nat} {a : Ex} {es : Exs} {oa : Option α} {o : Option τ} {rs : τ → List (D → HP)} {g : α → τ → Option ρ} (hc : Ob α c) (hm : W.P.meth c m = some f) (ha : RE W Γ a oa) (h : RAs W Γ es o rs) (sp : ∀ x v, SpR W.P W.T n f (rd x :: rs v) (g x v)) (hj : n ≤ W.j) : RE W Γ (.meth a m es) (oa.bind fun x => o.bind fun v => g x v) := fun v ev env L S Q X hl hs q => by
  cases ea : oa with
  | none => rw [ea] at ev; cases ev
  | some x =>
  cases eo : o with
  | none => rw [ea, eo] at ev; cases ev
  | some y =>
  rw [ea, eo] at ev
  refine ha.one ea hl hs fun d S1 l1 r1 hs1 => ?_
  obtain ⟨p, fs, rfl, e1⟩ := hc x d S1 r1
  exact ⟨p, c, fs, f, rfl, e1, hm, h y eo env L S1 _ X hl hs1 fun ds S2 l2 r2 _ => sp x y W.j hj v ev (.ref p :: ds) S2 Q X ⟨Rp.rd_up l2 r1, r2⟩ fun d S' l n => q d S' ((l1.trans l2).trans l) n⟩
theorem VE.mk {τ ρ : Type} [Rp ρ] {c n : Nat} {es : Exs} {o : Option τ} {rs : τ → List (D → HP)} {g : τ → Option ρ} (h : RAs W Γ es o rs) (sp : ∀ v, SpI W.P W.T n c (rs v) (g v)) (hj : n ≤ W.j) : VE W Γ (.mk c es) (o.bind g) := fun v ev env L S Q X hl hs q => by
  cases eo : o with
  | none => rw [eo] at ev; cases ev
  | some x =>
  rw [eo] at ev
  exact h x eo env L S _ X hl hs fun ds S1 l1 r1 _ => sp x W.j hj v ev ds S1 Q X r1 fun d S' l n => q d S' (l1.trans l) (n.trans l1)
theorem RE.fld {α β : Type} [Rp α] [Rp β] {f : Nat} {e : Ex} {o : Option α} (get : α → β) (H : FR f get) (h : RE W Γ e o) : RE W Γ (.fld e f) (o.bind fun v => some (get v)) := fun v ev env L S Q X hl hs q => by
  cases eo : o with
  | none => rw [eo] at ev; cases ev
  | some x =>
  rw [eo] at ev
  cases ev
  refine h.one eo hl hs fun d S' l r _ => ?_
  obtain ⟨a, c, fs, d', e1, e2, e3, e4⟩ := H x d S' r
  exact ⟨a, c, fs, d', e1, e2, e3, q d' S' l e4⟩
theorem sz {n : Nat} (h : n ≤ 1000) : n ≤ sizeLine := Nat.le_trans h (by decide)
/-- like things in a row -/
def LDs {α : Type} [Pl α] (W : Wo) (Γ : Cx) (es : Exs) (o : Option (List α)) : Prop := ∀ v, o = some v → ∀ env L S Q X, env.length = Γ.length → Sep (Rel Γ env ++ keep W.S0 :: L) S →
  (∀ S', Le S S' → Q (v.map enc) S') → W.Es es env S Q X
theorem LDs.nil {α : Type} [Pl α] : LDs W Γ .nil (some ([] : List α)) := fun v ev env L S Q X hl hs q => by cases ev; exact q S .refl
theorem LDs.cons {α : Type} [Pl α] {e : Ex} {es : Exs} {oa : Option α} {o : Option (List α)} (ha : RE W Γ e oa) (h : LDs W Γ es o) : LDs W Γ (.cons e es) (oa.bind fun x => o.bind fun v => some (x :: v)) := fun v ev env L S Q X hl hs q => by
  cases ea : oa with
  | none => rw [ea] at ev; cases ev
  | some x =>
  cases eo : o with
  | none => rw [ea, eo] at ev; cases ev
  | some y =>
  rw [ea, eo] at ev
  cases ev
  refine ha.one ea hl hs fun d S1 l1 r1 hs1 => h y eo env L S1 _ X hl hs1 fun S2 l2 => ?_
  rw [Pl.rd_iff.mp r1]
  exact q S2 (l1.trans l2)
theorem VE.lst {α : Type} [Pl α] {es : Exs} {o : Option (List α)} (h : LDs W Γ es o) : VE W Γ (.lst es) (o.bind fun v => ask (v.length ≤ 1000) (some v)) := fun v ev env L S Q X hl hs q => by
  cases eo : o with
  | none => rw [eo] at ev; cases ev
  | some y =>
  rw [eo] at ev
  obtain ⟨p, e⟩ := ask_some ev
  cases e
  exact h _ eo env L S _ X hl hs fun S2 l2 => ⟨sz (by rw [List.length_map]; exact p), fun a ha => q _ _ (l2.trans (.upd ha)) ((New.lst ha).trans l2)⟩
theorem RE.tl {α : Type} [Pl α] {es : Exs} {o : Option (List α)} (h : LDs W Γ es o) : RE W Γ (.tup es) (o.bind fun v => ask (v.length ≤ 1000) (some (⟨v⟩ : Tl α))) := fun v ev env L S Q X hl hs q => by
  cases eo : o with
  | none => rw [eo] at ev; cases ev
  | some y =>
  rw [eo] at ev
  obtain ⟨p, e⟩ := ask_some ev
  cases e
  exact h _ eo env L S _ X hl hs fun S2 l2 => ⟨sz (by rw [List.length_map]; exact p), q _ _ l2 rfl⟩
/-- a new list of any things: empty -/
theorem VE.lst0 {α : Type} [Rp α] : VE W Γ (.lst .nil) (some ([] : List α)) := fun v ev env L S Q X hl hs q => by
  cases ev
  exact ⟨sz (by decide), fun a ha => q _ _ (.upd ha) (.one ha fun k e => ⟨a, [], rfl, ⟨k, fun _ => none, fun _ => .inr rfl, .refl, (fun _ _ z => by cases z), e, ⟨fun _ => none, fun _ => none, fun _ => .inr rfl, .refl, .refl, trivial, trivial⟩⟩⟩)⟩
theorem VE.dic0 {κ α : Type} [Ky κ] [Rp α] : VE W Γ (.dic .nil .nil) (some (d0 : Dct κ α)) := fun v ev env L S Q X hl hs q => by
  cases ev
  exact fun a ha => q _ _ (.upd ha) (.one ha fun k e => ⟨List.nodup_nil, a, [], rfl, ⟨k, fun _ => none, fun _ => .inr rfl, .refl, (fun _ _ z => by cases z), e, ⟨fun _ => none, fun _ => none, fun _ => .inr rfl, .refl, .refl, trivial, trivial⟩⟩⟩)

/-! ### walks -/
/-- e reads as what is kept -/
def KE {α : Type} [Rp α] (W : Wo) (Γ : Cx) (e : Ex) (o : Option α) : Prop := ∀ v, o = some v → ∀ env L S Q X, env.length = Γ.length → Sep (Rel Γ env ++ keep W.S0 :: L) S →
  (∀ d S', Le S S' → rd v d W.S0 → Q d S') → W.E e env S Q X
theorem RE.ke {α : Type} [Pl α] {e : Ex} {o : Option α} (h : RE W Γ e o) : KE W Γ e o := fun v ev env L S Q X hl hs q => h v ev env L S Q X hl hs fun d S' l r => q d S' l (Pl.rd_iff.mpr (Pl.rd_iff.mp r))
theorem KE.re {α : Type} [Rp α] {e : Ex} {o : Option α} (h : KE W Γ e o) : RE W Γ e o := fun v ev env L S Q X hl hs q => h v ev env L S Q X hl hs fun d S' l r => q d S' l (Rp.rd_up ((keep_le hs).trans l) r)
theorem KE.var {α : Type} [Rp α] {i : Nat} {S1 : Store} {v : α} (e : Γ[i]? = some (some (ro S1 v))) (h : Le S1 W.S0) : KE W Γ (.var i) (some v) := fun v' ev env L S Q X hl hs q => by
  cases ev
  obtain ⟨d, ed, z⟩ := Rel.take e hl hs
  obtain ⟨h1, h2, _, l1, l2, a, t⟩ := z
  exact ⟨d, ed, q d S .refl (Rp.rd_up h a)⟩
theorem KE.fld {α β : Type} [Rp α] [Rp β] {f : Nat} {e : Ex} {o : Option α} (get : α → β) (H : FR f get) (h : KE W Γ e o) : KE W Γ (.fld e f) (o.bind fun v => some (get v)) := fun v ev env L S Q X hl hs q => by
  cases eo : o with
  | none => rw [eo] at ev; cases ev
  | some x =>
  rw [eo] at ev
  cases ev
  refine h x eo env L S _ X hl hs fun d S' l r => ?_
  obtain ⟨a, c, fs, d', e1, e2, e3, e4⟩ := H x d W.S0 r
  exact ⟨a, c, fs, d', e1, ((keep_le hs).trans l) _ _ e2, e3, q d' S' l e4⟩
/-- the items of a walk: of a store that is kept -/
def IT {α : Type} [Rp α] (W : Wo) (Γ : Cx) (it : Itx) (o : Option (List α)) : Prop := ∀ xs, o = some xs → ∀ env L S (K : List D → (Store → Prop) → Store → Prop) X, env.length = Γ.length → Sep (Rel Γ env ++ keep W.S0 :: L) S →
  (∀ ds g S1 S', Le S S' → Le W.S0 S1 → Ats (xs.map rd) ds S1 → (∀ S2, Le S1 S2 → g S2) → Sep (Rel Γ env ++ keep S1 :: L) S' → K ds g S') → wpI W.P (run W.P W.T W.j) (runM W.P W.T W.j) it env S K X
theorem keep_up {S0 S1 : Store} {A L : List HP} {S : Store} (l : Le S0 S1) (h : Sep (A ++ keep S1 :: L) S) : Sep (A ++ keep S0 :: L) S := by
  induction A generalizing S with
  | nil => exact h.imp fun k z => l.trans z
  | cons A AS ih => exact Sep.under (fun S => ih) h
/-- a new thing is kept from now on -/
theorem keep_new {A : HP} (up : ∀ h h', Le h h' → A h → A h') {S0 : Store} {B L : List HP} {S : Store} (h : Sep (A :: (B ++ keep S0 :: L)) S) : ∃ S1, Le S0 S1 ∧ A S1 ∧ Sep (B ++ keep S1 :: L) S := by
  have pm : (A :: (B ++ keep S0 :: L)).Perm (A :: keep S0 :: (B ++ L)) := (List.perm_middle (a := keep S0) (l₁ := B) (l₂ := L)).cons A
  obtain ⟨h1, h2, dj, l1, l2, a, h3, h4, dj2, l3, l4, k, r⟩ := h.perm pm
  have d13 : Dj h1 h3 := dj.le .refl l3
  have d14 : Dj h1 h4 := dj.le .refl l4
  have q : Sep (keep (mix S0 h1) :: (B ++ L)) S := by
    refine ⟨mix h3 h1, h4, mix_dj dj2 d14, mix_le (l3.trans l2) l1, l4.trans l2, fun a c e => ?_, r⟩
    unfold mix at e
    cases z : S0 a with
    | none => rw [z] at e; exact mix_r d13.symm a c e
    | some d => rw [z] at e; cases e; exact mix_l a _ (k a _ z)
  refine ⟨mix S0 h1, mix_l, up h1 _ ?_ a, q.perm (List.perm_middle (a := keep (mix S0 h1)) (l₁ := B) (l₂ := L)).symm⟩
  intro a c e
  have z : S0 a = none := by
    cases z : S0 a with
    | none => rfl
    | some d =>
      rcases d13 a with w | w
      · rw [w] at e; cases e
      · rw [k a _ z] at w; cases w
  unfold mix
  rw [z]
  exact e
theorem IT.seqK {α : Type} [Rp α] {e : Ex} {o : Option (List α)} (h : KE W Γ e o) : IT W Γ (.seq e) o := fun xs ex env L S K X hl hs q => by
  refine h xs ex env L S _ X hl hs fun d S' l r => ?_
  have hs' := hs.le l
  obtain ⟨a, ds, rfl, e1, r⟩ := r
  exact ⟨ds, (keep_le hs') _ _ e1, q ds _ W.S0 S' l .refl r (fun S2 l2 => l2 _ _ e1) hs'⟩
theorem IT.seqV {α : Type} [Rp α] {e : Ex} {o : Option (List α)} (h : VE W Γ e o) : IT W Γ (.seq e) o := fun xs ex env L S K X hl hs q => by
  refine h xs ex env L S _ X hl hs fun d S' l n => ?_
  have hs' := n.sep l hs
  obtain ⟨S1, l1, a, hs1⟩ := keep_new (fun h h' l z => Rp.own_up l z) hs'
  obtain ⟨p, ds, rfl, c, r⟩ := own_cell a
  exact ⟨ds, (keep_le hs1) _ _ c, q ds _ S1 S' l l1 r (fun S2 l2 => l2 _ _ c) hs1⟩
theorem IT.tl {α : Type} [Pl α] {e : Ex} {o : Option (Tl α)} (h : RE W Γ e o) : IT W Γ (.seq e) (o.bind fun x => some x.l) := fun xs ex env L S K X hl hs q => by
  cases eo : o with
  | none => rw [eo] at ex; cases ex
  | some x =>
  rw [eo] at ex
  cases ex
  refine h x eo env L S _ X hl hs fun d S' l r => ?_
  cases r
  exact q _ _ W.S0 S' l .refl (ats_pl.mpr rfl) (fun _ _ => trivial) (hs.le l)
def charsS (s : Str) : List Str := s.cps.toList.map fun c => ⟨#[c]⟩
theorem IT.str {e : Ex} {o : Option Str} (h : RE W Γ e o) : IT W Γ (.seq e) (o.bind fun x => some (charsS x)) := fun xs ex env L S K X hl hs q => by
  cases eo : o with
  | none => rw [eo] at ex; cases ex
  | some x =>
  rw [eo] at ex
  cases ex
  refine h x eo env L S _ X hl hs fun d S' l r => ?_
  cases r
  exact q _ _ W.S0 S' l .refl (ats_pl.mpr (by unfold charsS; rw [List.map_map]; rfl)) (fun _ _ => trivial) (hs.le l)
def rngI (lo hi : Int) : List Int := (List.range (hi - lo).toNat).map fun (k : Nat) => lo + (k : Int)
theorem rng_enc (lo hi : Int) : rngL lo hi = (rngI lo hi).map enc := by
  unfold rngL rngI
  rw [List.map_map]
  rfl
instance (i : Int) : Decidable (small i) := by unfold small; exact inferInstance
theorem IT.rng1 {e : Ex} {o : Option Int} (h : RE W Γ e o) : IT W Γ (.rng1 e) (o.bind fun x => ask (small x) (some (rngI 0 x))) := fun xs ex env L S K X hl hs q => by
  cases eo : o with
  | none => rw [eo] at ex; cases ex
  | some x =>
  rw [eo] at ex
  obtain ⟨p, e⟩ := ask_some ex
  cases e
  refine h x eo env L S _ X hl hs fun d S' l r => ?_
  cases r
  exact ⟨x, rfl, p, q _ _ W.S0 S' l .refl (by rw [rng_enc]; exact ats_pl.mpr rfl) (fun _ _ => trivial) (hs.le l)⟩
theorem IT.rng2 {a b : Ex} {oa ob : Option Int} (ha : RE W Γ a oa) (hb : RE W Γ b ob) : IT W Γ (.rng2 a b) (oa.bind fun x => ob.bind fun y => ask (small x ∧ small y) (some (rngI x y))) := fun xs ex env L S K X hl hs q => by
  cases ea : oa with
  | none => rw [ea] at ex; cases ex
  | some x =>
  cases eb : ob with
  | none => rw [ea, eb] at ex; cases ex
  | some y =>
  rw [ea, eb] at ex
  obtain ⟨p, e⟩ := ask_some ex
  cases e
  refine ha.two hb ea eb hl hs fun d1 d2 S' l r1 r2 => ?_
  cases r1
  cases r2
  exact ⟨x, y, rfl, rfl, p.1, p.2, q _ _ W.S0 S' l .refl (by rw [rng_enc]; exact ats_pl.mpr rfl) (fun _ _ => trivial) (hs.le l)⟩
/-- numbered -/
def enuI {α : Type} (xs : List α) : List (T2 Int α) := (List.range xs.length).zipWith (fun (k : Nat) x => ⟨(k : Int), x⟩) xs
theorem enu_enc {α : Type} [Pl α] (xs : List α) : enuL (xs.map enc) = (enuI xs).map enc := by
  unfold enuL enuI
  rw [List.length_map, List.zipWith_map_right, List.map_zipWith]
  rfl
theorem IT.enuK {α : Type} [Pl α] {e : Ex} {o : Option (List α)} (h : KE W Γ e o) : IT W Γ (.enu e) (o.bind fun x => some (enuI x)) := fun xs ex env L S K X hl hs q => by
  cases eo : o with
  | none => rw [eo] at ex; cases ex
  | some x =>
  rw [eo] at ex
  cases ex
  refine h x eo env L S _ X hl hs fun d S' l r => ?_
  have hs' := hs.le l
  obtain ⟨a, ds, rfl, e1, r⟩ := r
  have e2 := ats_pl.mp r
  subst e2
  exact .inr ⟨a, _, rfl, (keep_le hs') _ _ e1, q _ _ W.S0 S' l .refl (by rw [enu_enc]; exact ats_pl.mpr rfl) (fun S2 l2 => l2 _ _ e1) hs'⟩
/-! ### targets -/
/-- what stands behind a target is given v -/
def AsT (tg : Tg) (r : D → HP) (Γ Γ' : Cx) : Prop := ∀ d env L S, env.length = Γ.length → Sep (r d :: (Rel Γ env ++ L)) S → ∃ env', asgT tg d env = some env' ∧ env'.length = Γ'.length ∧ Sep (Rel Γ' env' ++ L) S
theorem AsT.nm {i : Nat} {r : D → HP} : AsT (.nm i) r Γ (Γ.set i (some r)) := fun d env L S hl hs => ⟨_, rfl, by rw [List.length_set, List.length_set]; exact hl, Rel.asg hl hs⟩
theorem sep_pl {L : List HP} {α : Type} [Pl α] {v : α} {d : D} {S : Store} (e : d = enc v) (h : Sep L S) : Sep (own v d :: L) S := ⟨fun _ => none, S, fun _ => .inl rfl, (fun _ _ z => by cases z), .refl, Pl.own_iff.mpr e, h⟩
theorem sep_plE {L : List HP} {α : Type} [Pl α] {v : α} {d : D} {S : Store} (h : Sep (own v d :: L) S) : d = enc v := by
  obtain ⟨h1, h2, _, _, _, a, _⟩ := h
  exact Pl.own_iff.mp a
theorem AsT.t2 {α β : Type} [Pl α] [Pl β] {x : T2 α β} {s t : Tg} {Γ1 Γ2 : Cx} (h1 : AsT s (own x.a) Γ Γ1) (h2 : AsT t (own x.b) Γ1 Γ2) : AsT (.tup (.cons s (.cons t .nil))) (own x) Γ Γ2 := fun d env L S hl hs => by
  have e := sep_plE hs
  subst e
  obtain ⟨env1, e1, l1, s1⟩ := h1 (enc x.a) env L S hl (sep_pl rfl hs.tail)
  obtain ⟨env2, e2, l2, s2⟩ := h2 (enc x.b) env1 L S l1 (sep_pl rfl s1)
  refine ⟨env2, ?_, l2, s2⟩
  show asgTs (.cons s (.cons t .nil)) [enc x.a, enc x.b] env = _
  simp only [asgTs, e1, e2]
theorem AsT.t3 {α β γ : Type} [Pl α] [Pl β] [Pl γ] {x : T3 α β γ} {s t u : Tg} {Γ1 Γ2 Γ3 : Cx} (h1 : AsT s (own x.a) Γ Γ1) (h2 : AsT t (own x.b) Γ1 Γ2) (h3 : AsT u (own x.c) Γ2 Γ3) : AsT (.tup (.cons s (.cons t (.cons u .nil)))) (own x) Γ Γ3 := fun d env L S hl hs => by
  have e := sep_plE hs
  subst e
  obtain ⟨env1, e1, l1, s1⟩ := h1 (enc x.a) env L S hl (sep_pl rfl hs.tail)
  obtain ⟨env2, e2, l2, s2⟩ := h2 (enc x.b) env1 L S l1 (sep_pl rfl s1)
  obtain ⟨env3, e3, l3, s3⟩ := h3 (enc x.c) env2 L S l2 (sep_pl rfl s2)
  refine ⟨env3, ?_, l3, s3⟩
  show asgTs (.cons s (.cons t (.cons u .nil))) [enc x.a, enc x.b, enc x.c] env = _
  simp only [asgTs, e1, e2, e3]
/-! ### comprehensions -/
def wipeC (Γ : Cx) : List Nat → Cx
  | [] => Γ
  | v :: vs => (wipeC Γ vs).set v none
theorem Rel.wipe1 {L : List HP} : ∀ {Γ : Cx} {env : Env} {i : Nat} {S : Store}, Sep (Rel Γ env ++ L) S → Sep (Rel (Γ.set i none) (env.set i none) ++ L) S
  | [], [], _, _, h => h
  | [], _ :: _, _, _, h => h
  | _ :: _, [], 0, _, h => h
  | _ :: _, [], _ + 1, _, h => h
  | g :: Γ, o :: env, 0, S, h => h.tail.true0
  | g :: Γ, o :: env, i + 1, S, h => Sep.under (fun S => Rel.wipe1 (i := i)) h
theorem Rel.wipe {L : List HP} {Γ : Cx} {env : Env} {S : Store} (hl : env.length = Γ.length) (h : Sep (Rel Γ env ++ L) S) : ∀ vs : List Nat, (wipeE env vs).length = (wipeC Γ vs).length ∧ Sep (Rel (wipeC Γ vs) (wipeE env vs) ++ L) S
  | [] => ⟨hl, h⟩
  | v :: vs => by
    obtain ⟨a, b⟩ := Rel.wipe hl h vs
    refine ⟨?_, Rel.wipe1 b⟩
    show ((wipeE env vs).set v none).length = ((wipeC Γ vs).set v none).length
    rw [List.length_set, List.length_set]
    exact a
def compO {α β : Type} (c : α → Option Bool) (f : α → Option β) : List α → Option (List β)
  | [] => some []
  | x :: xs => (c x).bind fun b => bif b then (f x).bind fun y => (compO c f xs).bind fun r => some (y :: r) else compO c f xs
end
theorem compO_some {α β : Type} (c : α → Bool) (f : α → β) : ∀ xs : List α, compO (fun x => some (c x)) (fun x => some (f x)) xs = some ((xs.filter c).map f)
  | [] => rfl
  | x :: xs => by
    show (bif c x then (compO (fun x => some (c x)) (fun x => some (f x)) xs).bind fun r => some (f x :: r) else _) = _
    rw [compO_some c f xs]
    cases h : c x with
    | true => rw [List.filter_cons_of_pos h]; rfl
    | false => rw [List.filter_cons_of_neg (by rw [h]; exact Bool.false_ne_true)]; rfl
theorem compO_map {α β : Type} (f : α → β) (xs : List α) : compO (fun _ => some true) (fun x => some (f x)) xs = some (xs.map f) := by
  rw [compO_some (fun _ => true), List.filter_eq_self.mpr (fun _ _ => rfl)]
/-- a comprehension of plain things -/
theorem VE.comp {α β : Type} [Rp α] [Pl β] {W : Wo} {Γ : Cx} {e c : Ex} {tg : Tg} {it : Itx} {vs : List Nat} {o : Option (List α)} {oc : α → Option Bool} {of : α → Option β} {Γ2 : Store → α → Cx} (hi : IT W Γ it o)
    (ht : ∀ S1, Le W.S0 S1 → ∀ x, AsT tg (ro S1 x) (wipeC Γ vs) (Γ2 S1 x))
    (hc : ∀ S1, Le W.S0 S1 → ∀ x, RE { W with S0 := S1 } (Γ2 S1 x) c (oc x)) (hf : ∀ S1, Le W.S0 S1 → ∀ x, RE { W with S0 := S1 } (Γ2 S1 x) e (of x)) :
    VE W Γ (.comp e tg it c vs) (o.bind fun xs => ask (xs.length ≤ 1000000) (compO oc of xs)) := fun v ev env L S Q X hl hs q => by
  cases eo : o with
  | none => rw [eo] at ev; cases ev
  | some xs =>
  rw [eo] at ev
  obtain ⟨lx, ev⟩ := ask_some ev
  refine hi xs eo env L S _ X hl hs fun ds g S1 Sa la l1 ha hg hsa => ?_
  intro p hp
  refine hold ?_
  have go : ∀ (ys : List α) (es : List D) (w : List β) (acc : List β) (Sx : Store), Ats (ys.map rd) es S1 → compO oc of ys = some w → acc.length + ys.length ≤ 1000000 → Le Sa Sx → Sx p = some (.lst (acc.map enc)) →
      (∀ Sz, Le Sa Sz → Sz p = some (.lst ((acc ++ w).map enc)) → Q (.ref p) Sz) →
      compLoop g (fun d => asgT tg d (wipeE env vs)) (fun env S Q => W.E c env S Q noX) (fun env S Q => W.E e env S Q noX) p (Q (.ref p)) es Sx := by
    intro ys
    induction ys with
    | nil =>
      intro es w acc Sx hy hw hl2 lx2 hx fin
      cases es with
      | cons => exact hy.elim
      | nil =>
        cases hw
        exact ⟨hg _ ((keep_le hsa).trans lx2), fin Sx lx2 (by rw [List.append_nil]; exact hx)⟩
    | cons y ys ih =>
      intro es w acc Sx hy hw hl2 lx2 hx fin
      cases es with
      | nil => exact hy.elim
      | cons d es =>
        obtain ⟨r1, r2⟩ := hy
        rw [List.length_cons] at hl2
        obtain ⟨wl, ws⟩ := Rel.wipe hl (hsa.le lx2) vs
        obtain ⟨env', e1, l2, s2⟩ := ht S1 l1 y d (wipeE env vs) (keep S1 :: L) Sx wl (ws.fact r1)
        refine ⟨hg _ ((keep_le hsa).trans lx2), env', e1, ?_⟩
        have hw : ((oc y).bind fun b => bif b then (of y).bind fun z => (compO oc of ys).bind fun r => some (z :: r) else compO oc of ys) = some w := hw
        cases ec : oc y with
        | none => rw [ec] at hw; cases hw
        | some b =>
        rw [ec] at hw
        refine hc S1 l1 y b ec env' L Sx _ noX l2 s2 fun d1 S3 l3 r3 => ?_
        have e3 := Pl.rd_iff.mp r3
        subst e3
        refine ⟨b, rfl, ?_⟩
        cases b with
        | false =>
          rw [if_neg Bool.false_ne_true]
          exact ih es w acc S3 r2 hw (by omega) (lx2.trans l3) (l3 _ _ hx) fin
        | true =>
          rw [if_pos rfl]
          have hw : ((of y).bind fun z => (compO oc of ys).bind fun r => some (z :: r)) = some w := hw
          cases ef : of y with
          | none => rw [ef] at hw; cases hw
          | some z =>
          rw [ef] at hw
          have hw : ((compO oc of ys).bind fun r => some (z :: r)) = some w := hw
          cases er : compO oc of ys with
          | none => rw [er] at hw; cases hw
          | some r =>
          rw [er] at hw
          cases hw
          refine hf S1 l1 y z ef env' L S3 _ noX l2 (s2.le l3) fun d2 S4 l4 r4 => ?_
          have e4 := Pl.rd_iff.mp r4
          subst e4
          refine ⟨_, l4 _ _ (l3 _ _ hx), Nat.lt_of_le_of_lt (by rw [List.length_map]; omega : _ ≤ 1000000) (by decide), ?_⟩
          refine ih es r (acc ++ [z]) _ r2 er (by rw [List.length_append, List.length_singleton]; omega) (fun a c e => ?_) ?_ fun Sz lz hz => fin Sz lz (by rw [List.append_assoc] at hz; exact hz)
          · rw [Store.upd_ne (fun z => by rw [z, hp] at e; cases e)]
            exact l4 _ _ (l3 _ _ (lx2 _ _ e))
          · rw [Store.upd_same, List.map_append]
            rfl
  refine go xs ds v [] _ ha ev (by rw [List.length_nil]; omega) (.upd hp) Store.upd_same fun Sz lz hz => ?_
  refine q _ _ (la.trans lz) ?_
  have sp : S p = none := by
    cases z : S p with
    | none => rfl
    | some c => rw [la _ _ z] at hp; cases hp
  refine ⟨fun b => if b = p then some (.lst (v.map enc)) else none, ⟨p, v.map enc, rfl, ⟨_, fun _ => none, fun _ => .inr rfl, .refl, (fun _ _ z => by cases z), if_pos rfl, ⟨fun _ => none, fun _ => none, fun _ => .inr rfl, .refl, .refl, pts_pl.mpr rfl, trivial⟩⟩⟩, fun b c e => ?_, fun b => ?_⟩
  · by_cases z : b = p
    · simp only [z, if_true] at e
      rw [z, ← e]; exact hz
    · simp only [z, if_false] at e; cases e
  · by_cases z : b = p
    · left; rw [z]; exact sp
    · right; simp only [z, if_false]
end SW
/-! J, part E: statements. -/
namespace SW
open PySem L2
open Rp (own rd)
open Pl (enc)
inductive Out (M C B ρ Θ : Type) where
  | nx (m : M) | ct (c : C) | bk (b : B) | rt (v : ρ) (θ : Θ) | xx (c : Nat) (θ : Θ)
/-- what a block is for -/
structure Po (M C B ρ Θ : Type) where
  n : M → Cx
  c : C → Cx
  b : B → Cx
  r : ρ → D → HP
  f : Θ → Cx
def Po.ok {M C B ρ Θ : Type} (p : Po M C B ρ Θ) (S0 : Store) (L : List HP) (K : Kt) : Out M C B ρ Θ → Prop
  | .nx m => ∀ env S, env.length = (p.n m).length → Sep (Rel (p.n m) env ++ keep S0 :: L) S → K.nx env S
  | .ct m => ∀ env S, env.length = (p.c m).length → Sep (Rel (p.c m) env ++ keep S0 :: L) S → K.ct env S
  | .bk m => ∀ env S, env.length = (p.b m).length → Sep (Rel (p.b m) env ++ keep S0 :: L) S → K.bk env S
  | .rt v θ => ∀ d env S, env.length = (p.f θ).length → Sep (p.r v d :: (Rel (p.f θ) env ++ keep S0 :: L)) S → K.rt d S
  | .xx c θ => ∀ env S, env.length = (p.f θ).length → Sep (Rel (p.f θ) env ++ keep S0 :: L) S → K.ex env c S
def J {M C B ρ Θ : Type} (W : Wo) (p : Po M C B ρ Θ) (Γ : Cx) (s : Sms) (o : Option (Out M C B ρ Θ)) : Prop := ∀ r, o = some r → ∀ env L S K, env.length = Γ.length → Sep (Rel Γ env ++ keep W.S0 :: L) S → p.ok W.S0 L K r → W.Ss s env S K
theorem Po.up {M C B ρ Θ : Type} {p : Po M C B ρ Θ} {S0 S1 : Store} {L : List HP} {K : Kt} (l : Le S0 S1) : ∀ {r : Out M C B ρ Θ}, p.ok S0 L K r → p.ok S1 L K r
  | .nx m, h => fun env S hl hs => h env S hl (keep_up l hs)
  | .ct m, h => fun env S hl hs => h env S hl (keep_up l hs)
  | .bk m, h => fun env S hl hs => h env S hl (keep_up l hs)
  | .rt v θ, h => fun d env S hl hs => h d env S hl (keep_up (A := p.r v d :: Rel (p.f θ) env) l hs)
  | .xx c θ, h => fun env S hl hs => h env S hl (keep_up l hs)
section
variable {M C B ρ Θ : Type} {W : Wo} {p : Po M C B ρ Θ} {Γ : Cx} {rest : Sms}
theorem bind_some' {α β : Type} {o : Option α} {f : α → Option β} {r : β} (h : o.bind f = some r) : ∃ x, o = some x ∧ f x = some r := by
  cases o with
  | none => cases h
  | some x => exact ⟨x, rfl, h⟩
/-- the end of a block -/
theorem J.nil {m : M} (h : Fg Γ (p.n m)) : J W p Γ .nil (some (.nx m)) := fun r er env L S K hl hs ok => by
  cases er
  exact ok env S (hl.trans h.len) (h.rel hs)
theorem J.cont {m : C} (h : Fg Γ (p.c m)) : J W p Γ (.cons .cont rest) (some (.ct m)) := fun r er env L S K hl hs ok => by
  cases er
  exact ok env S (hl.trans h.len) (h.rel hs)
theorem J.brk {m : B} (h : Fg Γ (p.b m)) : J W p Γ (.cons .brk rest) (some (.bk m)) := fun r er env L S K hl hs ok => by
  cases er
  exact ok env S (hl.trans h.len) (h.rel hs)
theorem J.raise {c : Nat} {θ : Θ} (h : Fg Γ (p.f θ)) : J W p Γ (.cons (.raise c) rest) (some (.xx c θ)) := fun r er env L S K hl hs ok => by
  cases er
  exact ok env S (hl.trans h.len) (h.rel hs)
theorem J.pass {o : Option (Out M C B ρ Θ)} (h : J W p Γ rest o) : J W p Γ (.cons .pass rest) o := fun r er env L S K hl hs ok => h r er env L S K hl hs ok
/-- what is told -/
theorem J.retV {e : Ex} {θ : Θ} {ov : Option ρ} [Rp ρ] (hp : p.r = own) (he : VE W Γ e ov) (h : Fg Γ (p.f θ)) : J W p Γ (.cons (.ret e) rest) (ov.bind fun v => some (.rt v θ)) := fun r er env L S K hl hs ok => by
  obtain ⟨v, ev, er⟩ := bind_some' er
  cases er
  refine he v ev env L S _ _ hl hs fun d S' l n => ok d env S' (hl.trans h.len) ?_
  rw [hp]
  exact Sep.under (fun S => h.rel) (n.sep l hs)
/-- a thing of one's own is told: it is given away -/
theorem J.retO {i : Nat} {θ : Θ} {v : ρ} [Rp ρ] (hp : p.r = own) (e : Γ[i]? = some (some (own v))) (h : Fg (Γ.set i none) (p.f θ)) : J W p Γ (.cons (.ret (.var i)) rest) (some (.rt v θ)) := fun r er env L S K hl hs ok => by
  cases er
  obtain ⟨d, ed, z⟩ := Rel.take e hl hs
  refine ⟨d, ed, ok d env S (by rw [hl, ← h.len, List.length_set]) ?_⟩
  rw [hp]
  exact Sep.under (fun S => h.rel) z
theorem J.retN {θ : Θ} {p : Po M C B Unit Θ} (hp : p.r = own) (h : Fg Γ (p.f θ)) : J W p Γ (.cons .retN rest) (some (.rt () θ)) := fun r er env L S K hl hs ok => by
  cases er
  refine ok .non env S (hl.trans h.len) ?_
  rw [hp]
  exact sep_pl rfl (h.rel hs)
/-- x = e -/
theorem J.asg {α : Type} [Rp α] {i : Nat} {e : Ex} {ov : Option α} {k : α → Option (Out M C B ρ Θ)} (he : VE W Γ e ov) (h : ∀ v, J W p (Γ.set i (some (own v))) rest (k v)) : J W p Γ (.cons (.asg (.nm i) e) rest) (ov.bind k) := fun r er env L S K hl hs ok => by
  obtain ⟨v, ev, er⟩ := bind_some' er
  refine he v ev env L S _ _ hl hs fun d S' l n => ⟨_, rfl, h v r er _ L S' K (by rw [List.length_set, List.length_set]; exact hl) (Rel.asg hl (n.sep l hs)) ok⟩
/-- x = e, plain -/
theorem J.asgR {α : Type} [Pl α] {i : Nat} {e : Ex} {ov : Option α} {k : α → Option (Out M C B ρ Θ)} (he : RE W Γ e ov) (h : ∀ v, J W p (Γ.set i (some (own v))) rest (k v)) : J W p Γ (.cons (.asg (.nm i) e) rest) (ov.bind k) := .asg he.ve h
/-- x, y = e -/
theorem J.asgT {α : Type} [Pl α] {tg : Tg} {e : Ex} {ov : Option α} {k : α → Option (Out M C B ρ Θ)} {Γ' : α → Cx} (he : RE W Γ e ov) (ht : ∀ v, AsT tg (own v) Γ (Γ' v)) (h : ∀ v, J W p (Γ' v) rest (k v)) : J W p Γ (.cons (.asg tg e) rest) (ov.bind k) := fun r er env L S K hl hs ok => by
  obtain ⟨v, ev, er⟩ := bind_some' er
  refine he.ve v ev env L S _ _ hl hs fun d S' l n => ?_
  obtain ⟨env', e1, l1, s1⟩ := ht v d env _ S' hl (n.sep l hs)
  exact ⟨env', e1, h v r er env' L S' K l1 s1 ok⟩
/-- if, where each way goes on by itself -/
def Sms.app : Sms → Sms → Sms
  | .nil, t => t
  | .cons s ss, t => .cons s (Sms.app ss t)
theorem app_wp {P : Prg} {R RM : Rec} {t : Sms} : ∀ {a : Sms} {env : Env} {S : Store} {K : Kt}, wpSs P R RM (a.app t) env S K = wpSs P R RM a env S { K with nx := fun e s => wpSs P R RM t e s K }
  | .nil, env, S, K => rfl
  | .cons s ss, env, S, K => by
    show wpS P R RM s env S { K with nx := fun e s' => wpSs P R RM (ss.app t) e s' K } = wpS P R RM s env S { nx := fun e s' => wpSs P R RM ss e s' { K with nx := fun e s => wpSs P R RM t e s K }, rt := K.rt, bk := K.bk, ct := K.ct, ex := K.ex }
    congr 1
    congr 1
    funext e s'
    exact app_wp
theorem J.ite {t : Ex} {a b : Sms} {ot : Option Bool} {oa ob : Option (Out M C B ρ Θ)} (ht : RE W Γ t ot) (ha : J W p Γ (a.app rest) oa) (hb : J W p Γ (b.app rest) ob) : J W p Γ (.cons (.ite t a b) rest) (ot.bind fun c => bif c then oa else ob) := fun r er env L S K hl hs ok => by
  obtain ⟨c, ec, er⟩ := bind_some' er
  refine ht c ec env L S _ _ hl hs fun d S' l z => ?_
  cases z
  refine ⟨c, rfl, ?_⟩
  cases c with
  | true =>
    rw [if_pos rfl]
    have q := ha r er env L S' K hl (hs.le l) ok
    unfold Wo.Ss at q
    rw [app_wp] at q
    exact q
  | false =>
    rw [if_neg Bool.false_ne_true]
    have q := hb r er env L S' K hl (hs.le l) ok
    unfold Wo.Ss at q
    rw [app_wp] at q
    exact q
/-- what goes on behind a block -/
def Out.go {M0 : Type} (k : M0 → Option (Out M C B ρ Θ)) : Out M0 C B ρ Θ → Option (Out M C B ρ Θ)
  | .nx m => k m
  | .ct m => some (.ct m)
  | .bk m => some (.bk m)
  | .rt v θ => some (.rt v θ)
  | .xx c θ => some (.xx c θ)
theorem J.seq {M0 : Type} {N : M0 → Cx} {s : Sm} {o : Option (Out M0 C B ρ Θ)} {k : M0 → Option (Out M C B ρ Θ)} (hs : J W { n := N, c := p.c, b := p.b, r := p.r, f := p.f } Γ (.cons s .nil) o) (h : ∀ m, J W p (N m) rest (k m)) : J W p Γ (.cons s rest) (o.bind (Out.go k)) := fun r er env L S K hl hsp ok => by
  obtain ⟨x, ex, er⟩ := bind_some' er
  have q := hs x ex env L S { K with nx := fun e s => W.Ss rest e s K } hl hsp (by
    cases x with
    | nx m => exact fun env' S' hl' hs' => h m r er env' L S' K hl' hs' ok
    | ct m => cases er; exact ok
    | bk m => cases er; exact ok
    | rt v θ => cases er; exact ok
    | xx c θ => cases er; exact ok)
  exact q
/-- if, both ways come together -/
theorem J.join {M0 : Type} {N : M0 → Cx} {t : Ex} {a b : Sms} {ot : Option Bool} {oa ob : Option (Out M0 C B ρ Θ)} {k : M0 → Option (Out M C B ρ Θ)} (ht : RE W Γ t ot)
    (ha : J W { n := N, c := p.c, b := p.b, r := p.r, f := p.f } Γ a oa) (hb : J W { n := N, c := p.c, b := p.b, r := p.r, f := p.f } Γ b ob) (h : ∀ m, J W p (N m) rest (k m)) : J W p Γ (.cons (.ite t a b) rest) ((ot.bind fun c => bif c then oa else ob).bind (Out.go k)) := by
  refine .seq (N := N) (fun r er env L S K hl hs ok => ?_) h
  obtain ⟨c, ec, er⟩ := bind_some' er
  refine ht c ec env L S _ _ hl hs fun d S' l z => ?_
  cases z
  refine ⟨c, rfl, ?_⟩
  cases c with
  | true => rw [if_pos rfl]; exact ha r er env L S' K hl (hs.le l) ok
  | false => rw [if_neg Bool.false_ne_true]; exact hb r er env L S' K hl (hs.le l) ok
/-- for: f does one turn -/
def forO {α : Type} (f : M → α → Option (Out M M M ρ Θ)) : List α → M → Option (Out M C B ρ Θ)
  | [], m => some (.nx m)
  | x :: xs, m => (f m x).bind fun
    | .nx m' => forO f xs m'
    | .ct m' => forO f xs m'
    | .bk m' => some (.nx m')
    | .rt v θ => some (.rt v θ)
    | .xx c θ => some (.xx c θ)
theorem for_all {α : Type} [Rp α] {N : M → Cx} {tg : Tg} {b : Sms} {f : M → α → Option (Out M M M ρ Θ)} {S1 : Store} {g : Store → Prop} {Γ2 : M → α → Cx} {rr : ρ → D → HP} {ff : Θ → Cx} {C B : Type} {pc : C → Cx} {pb : B → Cx} (hN : ∀ m m', (N m).length = (N m').length)
    (hg : ∀ S2, Le S1 S2 → g S2) (ht : ∀ m x, AsT tg (ro S1 x) (N m) (Γ2 m x)) (hb : ∀ m x, J { W with S0 := S1 } ⟨N, N, N, rr, ff⟩ (Γ2 m x) b (f m x)) (K : Kt) (L : List HP) : ∀ (xs : List α) (ds : List D) (m : M) (r : Out M C B ρ Θ), forO f xs m = some r → Ats (xs.map rd) ds S1 → ∀ env S, env.length = (N m).length → Sep (Rel (N m) env ++ keep S1 :: L) S →
      (Po.ok ⟨N, pc, pb, rr, ff⟩ S1 L K r) → forLoop g (asgT tg) (fun e s k => W.Ss b e s k) K ds env S := by
  intro xs
  induction xs with
  | nil =>
    intro ds m r er ha env S hl hs ok
    cases ds with
    | cons => exact ha.elim
    | nil =>
      cases er
      exact ⟨hg _ (keep_le hs), ok env S hl hs⟩
  | cons x xs ih =>
    intro ds m r er ha env S hl hs ok
    cases ds with
    | nil => exact ha.elim
    | cons d ds =>
      obtain ⟨env2, e2, l2, s2⟩ := ht m x d env _ S hl (hs.fact ha.1)
      refine ⟨hg _ (keep_le hs), env2, e2, ?_⟩
      obtain ⟨y, ey, er⟩ := bind_some' (show (f m x).bind _ = some r from er)
      refine hb m x y ey env2 L S _ l2 s2 ?_
      cases y with
      | nx m' => exact fun env' S' hl' hs' => ih ds m' r er ha.2 env' S' hl' hs' ok
      | ct m' => exact fun env' S' hl' hs' => ih ds m' r er ha.2 env' S' hl' hs' ok
      | bk m' => cases er; exact ok
      | rt v θ => cases er; exact ok
      | xx c θ => cases er; exact ok
theorem J.for_ {α M0 : Type} [Rp α] {N : M0 → Cx} {tg : Tg} {it : Itx} {b : Sms} {o : Option (List α)} {f : M0 → α → Option (Out M0 M0 M0 ρ Θ)} {Γ2 : M0 → α → Store → Cx} {m0 : M0} {k : M0 → Option (Out M C B ρ Θ)} (hN : ∀ m m', (N m).length = (N m').length) (h0 : Fg Γ (N m0)) (hi : IT W Γ it o)
    (ht : ∀ S1, Le W.S0 S1 → ∀ m x, AsT tg (ro S1 x) (N m) (Γ2 m x S1)) (hb : ∀ S1, Le W.S0 S1 → ∀ m x, J { W with S0 := S1 } ⟨N, N, N, p.r, p.f⟩ (Γ2 m x S1) b (f m x)) (h : ∀ m, J W p (N m) rest (k m)) :
    J W p Γ (.cons (.for_ tg it b) rest) ((o.bind fun xs => forO f xs m0).bind (Out.go k)) := by
  refine .seq (N := N) (fun r er env L S K hl hs ok => ?_) h
  obtain ⟨xs, ex, er⟩ := bind_some' er
  refine hi xs ex env L S _ _ hl hs fun ds g S1 S' l l1 ha hg hs' => hold ?_
  exact for_all hN hg (ht S1 l1) (hb S1 l1) K L xs ds m0 r er ha env S' (hl.trans h0.len) (h0.rel hs') (Po.up l1 ok)
/-- what is made so far is kept from now on -/
theorem J.frz {α : Type} [Rp α] {i : Nat} {v : α} {o : Option (Out M C B ρ Θ)} (e : Γ[i]? = some (some (own v))) (h : ∀ S1, Le W.S0 S1 → J { W with S0 := S1 } p (Γ.set i (some (ro S1 v))) rest o) : J W p Γ rest o := fun r er env L S K hl hs ok => by
  obtain ⟨d, ed, z⟩ := Rel.take e hl hs
  obtain ⟨S1, l1, a, hs1⟩ := keep_new (fun h h' l z => Rp.own_up l z) z
  refine h S1 l1 r er env L S K (by rw [List.length_set]; exact hl) ?_ (Po.up l1 ok)
  have q := Rel.put (r := ro S1 v) (d := d) (by rw [List.length_set]; exact (List.getElem?_eq_some_iff.mp e).1) ed (Sep.fact (Rp.own_rd a) hs1)
  rw [List.set_set] at q
  exact q
end
end SW
/-! J, part F: places, what changes. -/
namespace SW
open PySem L2
open Rp (own rd)
open Pl (enc)
/-- e is the place of v -/
def PL {α : Type} [Rp α] (W : Wo) (Γ : Cx) (e : Ex) (v : α) (set : α → Cx) : Prop := ∀ env L S, env.length = Γ.length → Sep (Rel Γ env ++ keep W.S0 :: L) S →
  ∃ d V, (∀ Q X, Q d S → W.E e env S Q X) ∧ Sep (own v d :: V :: keep W.S0 :: L) S ∧ ∀ v', (set v').length = Γ.length ∧ ∀ L' S', Sep (own v' d :: V :: keep W.S0 :: L') S' → Sep (Rel (set v') env ++ keep W.S0 :: L') S'
theorem Sep.fold1 {A : HP} {L1 L2 : List HP} {S : Store} (h : Sep (A :: (L1 ++ L2)) S) : Sep (A :: Sep L1 :: L2) S := Sep.under (fun S => Sep.fold) h
theorem Sep.flat1 {A : HP} {L1 L2 : List HP} {S : Store} (h : Sep (A :: Sep L1 :: L2) S) : Sep (A :: (L1 ++ L2)) S := Sep.under (fun S => Sep.flat) h
section
variable {W : Wo} {Γ : Cx}
theorem PL.var {α : Type} [Rp α] {i : Nat} {v : α} (e : Γ[i]? = some (some (own v))) : PL W Γ (.var i) v (fun w => Γ.set i (some (own w))) := fun env L S hl hs => by
  obtain ⟨d, ed, z⟩ := Rel.take e hl hs
  refine ⟨d, _, fun Q X q => ⟨d, ed, q⟩, z.fold1, fun w => ⟨List.length_set, fun L' S' h => ?_⟩⟩
  have h := h.flat1
  have q := Rel.put (by rw [List.length_set]; exact (List.getElem?_eq_some_iff.mp e).1) ed h
  rw [List.set_set] at q
  exact q
theorem PL.pin {α : Type} [Rp α] {i : Nat} {v : α} {d0 : D} (e : Γ[i]? = some (some (pin d0 v))) : PL W Γ (.var i) v (fun w => Γ.set i (some (pin d0 w))) := fun env L S hl hs => by
  obtain ⟨d, ed, z⟩ := Rel.take e hl hs
  have z := z.fold1
  obtain ⟨h1, h2, dj, l1, l2, ⟨ed0, a⟩, t⟩ := z
  subst ed0
  refine ⟨d, _, fun Q X q => ⟨d, ed, q⟩, ⟨h1, h2, dj, l1, l2, a, t⟩, fun w => ⟨List.length_set, fun L' S' h => ?_⟩⟩
  have h := h.flat1
  have h : Sep (SW.pin d w d :: (Rel (Γ.set i none) env ++ keep W.S0 :: L')) S' := h.imp fun k z => ⟨rfl, z⟩
  have q := Rel.put (r := SW.pin d w) (by rw [List.length_set]; exact (List.getElem?_eq_some_iff.mp e).1) ed h
  rw [List.set_set] at q
  exact q
/-- a field of one's own -/
def FO {α β : Type} [Rp α] [Rp β] (f : Nat) (get : α → β) (st : α → β → α) : Prop := ∀ v d h, own v d h → ∃ a c fs d' V, d = .ref a ∧ h a = some (.ins c fs) ∧ fs.lookup f = some d' ∧ Sep [own (get v) d', V] h ∧ ∀ w h', Sep [own w d', V] h' → own (st v w) d h'
theorem PL.fld {α β : Type} [Rp α] [Rp β] {f : Nat} {e : Ex} {v : α} {set : α → Cx} {get : α → β} {st : α → β → α} (H : FO f get st) (h : PL W Γ e v set) : PL W Γ (.fld e f) (get v) (fun w => set (st v w)) := fun env L S hl hs => by
  obtain ⟨d, V, r, z, b⟩ := h env L S hl hs
  obtain ⟨h1, h2, dj, l1, l2, a, t⟩ := z
  obtain ⟨p, c, fs, d', V', e1, e2, e3, e4, e5⟩ := H v d h1 a
  refine ⟨d', Sep [V', V], fun Q X q => r _ _ ⟨p, c, fs, d', e1, l1 _ _ e2, e3, q⟩, ?_, fun w => ⟨(b _).1, fun L' S' q => (b _).2 L' S' ?_⟩⟩
  · have z : Sep (Sep [own (get v) d', V'] :: V :: keep W.S0 :: L) S := ⟨h1, h2, dj, l1, l2, e4, t⟩
    have z := z.flat
    exact Sep.under (fun S (y : Sep ([V', V] ++ (keep W.S0 :: L)) S) => y.fold) z
  · have q : Sep (own w d' :: ([V', V] ++ (keep W.S0 :: L'))) S' := Sep.under (fun S => Sep.flat) q
    have q : Sep ([own w d', V'] ++ (V :: keep W.S0 :: L')) S' := q
    exact q.fold.imp fun k z => e5 w k z
/-! dicts of one's own -/
theorem putK_cons (K Q d e : D) (r : List (D × D)) : putK K d ((Q, e) :: r) = if eqK Q K = true then (Q, d) :: repK K d r else (Q, e) :: putK K d r := by
  unfold putK hasK repK
  rw [List.any_cons]
  cases h : eqK Q K with
  | true =>
    rw [Bool.true_or, if_pos rfl, if_pos rfl, List.map_cons]
    dsimp only
    rw [if_pos h]
  | false =>
    simp only [Bool.false_or, List.map_cons, h, Bool.false_eq_true, if_false, List.cons_append]
    split <;> rfl
theorem repK_id {κ : Type} [Ky κ] [DecidableEq κ] {k : κ} {d : D} : ∀ {ks : List κ} {ds : List D}, k ∉ ks → repK (enc k) d (List.zip (ks.map enc) ds) = List.zip (ks.map enc) ds
  | [], _, _ => rfl
  | _ :: _, [], _ => rfl
  | q :: ks, e :: ds, h => by
    have ih := repK_id (k := k) (d := d) (ks := ks) (ds := ds) fun z => h (List.mem_cons_of_mem _ z)
    unfold repK at ih ⊢
    rw [List.map_cons, List.zip_cons_cons, List.map_cons, ih]
    dsimp only
    rw [eqk_dec, decide_eq_false (fun z => h (by rw [z]; exact List.mem_cons_self)), if_neg Bool.false_ne_true]
theorem kz {κ α : Type} [Ky κ] {l : List (κ × α)} {ds : List D} : List.zip (l.map fun p => enc p.1) ds = List.zip ((l.map fun p => p.1).map enc) ds := by rw [List.map_map]; rfl
theorem lp_pts {κ α : Type} [Ky κ] [DecidableEq κ] [Rp α] {k : κ} {v : α} {d : D} : ∀ {l : List (κ × α)} {ds : List D} {L : List HP} {S : Store}, (l.map fun p => p.1).Nodup → Sep (Pts (l.map fun p => own p.2) ds :: own v d :: L) S →
    ∃ ds', List.zip ((lp l k v).map fun p => enc p.1) ds' = putK (enc k) d (List.zip (l.map fun p => enc p.1) ds) ∧ Sep (Pts ((lp l k v).map fun p => own p.2) ds' :: L) S
  | [], ds, L, S, hn, h => by
    refine ⟨[d], ?_, ?_⟩
    · cases ds with
      | nil => rfl
      | cons => rfl
    · exact h.tail.imp fun k z => ⟨k, fun _ => none, fun _ => .inr rfl, .refl, (fun _ _ z => by cases z), z, trivial⟩
  | (q, u) :: r, [], L, S, hn, h => by obtain ⟨_, _, _, _, _, z, _⟩ := h; exact z.elim
  | (q, u) :: r, e :: ds, L, S, hn, h => by
    rw [List.map_cons, List.nodup_cons] at hn
    have h2 : Sep (own u e :: Pts (r.map fun p => own p.2) ds :: own v d :: L) S := by
      have z : Sep (Sep [own u e, Pts (r.map fun p => own p.2) ds] :: own v d :: L) S := h.imp fun k z => pts_sep.mp z
      exact z.flat
    have pc : putK (enc k) d (List.zip (((q, u) :: r).map fun p => enc p.1) (e :: ds)) = if q = k then (enc q, d) :: repK (enc k) d (List.zip (r.map fun p => enc p.1) ds) else (enc q, e) :: putK (enc k) d (List.zip (r.map fun p => enc p.1) ds) := by
      rw [List.map_cons, List.zip_cons_cons, putK_cons, eqk_dec]
      by_cases c : q = k
      · rw [if_pos c, decide_eq_true c, if_pos rfl]
      · rw [if_neg c, decide_eq_false c, if_neg Bool.false_ne_true]
    rw [pc]
    by_cases c : q = k
    · refine ⟨d :: ds, ?_, ?_⟩
      · show List.zip ((if q = k then (q, v) :: r else (q, u) :: lp r k v).map fun p => enc p.1) (d :: ds) = _
        rw [if_pos c, if_pos c, kz, kz, repK_id (by rw [← c]; exact hn.1)]
        rfl
      · show Sep (Pts ((if q = k then (q, v) :: r else (q, u) :: lp r k v).map fun p => own p.2) (d :: ds) :: L) S
        rw [if_pos c]
        have h3 : Sep ([own v d, Pts (r.map fun p => own p.2) ds] ++ L) S := h2.tail.swap
        exact h3.fold.imp fun k z => pts_sep.mpr z
    · have h3 : Sep (Pts (r.map fun p => own p.2) ds :: own v d :: own u e :: L) S := (h2.swap).under fun S z => z.swap
      obtain ⟨ds', e1, e2⟩ := lp_pts (k := k) hn.2 h3
      refine ⟨e :: ds', ?_, ?_⟩
      · show List.zip ((if q = k then (q, v) :: r else (q, u) :: lp r k v).map fun p => enc p.1) (e :: ds') = _
        rw [if_neg c, if_neg c, List.map_cons, List.zip_cons_cons, e1]
      · show Sep (Pts ((if q = k then (q, v) :: r else (q, u) :: lp r k v).map fun p => own p.2) (e :: ds') :: L) S
        rw [if_neg c]
        have h4 : Sep ([own u e, Pts ((lp r k v).map fun p => own p.2) ds'] ++ L) S := e2.swap
        exact h4.fold.imp fun k z => pts_sep.mpr z
theorem lp_keys {κ α : Type} [DecidableEq κ] {k : κ} {v : α} : ∀ {l : List (κ × α)}, (lp l k v).map (fun p => p.1) = if k ∈ l.map (fun p => p.1) then l.map (fun p => p.1) else l.map (fun p => p.1) ++ [k]
  | [] => rfl
  | (q, u) :: r => by
    show (if q = k then (q, v) :: r else (q, u) :: lp r k v).map (fun p => p.1) = _
    by_cases c : q = k
    · rw [if_pos c, if_pos (by rw [List.map_cons]; exact c ▸ List.mem_cons_self)]; rfl
    · rw [if_neg c, List.map_cons, lp_keys]
      by_cases m : k ∈ r.map (fun p => p.1)
      · rw [if_pos m, if_pos (by rw [List.map_cons]; exact List.mem_cons_of_mem _ m)]; rfl
      · rw [if_neg m, if_neg (fun z => by
          rw [List.map_cons] at z
          rcases List.mem_cons.mp z with z | z
          · exact c z.symm
          · exact m z)]
        rfl
theorem lp_nodup {κ α : Type} [DecidableEq κ] {k : κ} {v : α} {l : List (κ × α)} (h : (l.map fun p => p.1).Nodup) : ((lp l k v).map fun p => p.1).Nodup := by
  rw [lp_keys]
  split
  · exact h
  · rename_i m
    rw [List.nodup_append]
    exact ⟨h, List.nodup_cons.mpr ⟨List.not_mem_nil, List.nodup_nil⟩, fun a ha b hb e => m (by rw [List.mem_singleton] at hb; rw [← hb, ← e]; exact ha)⟩
theorem lg_pts {κ α : Type} [Ky κ] [DecidableEq κ] [Rp α] {k : κ} {v : α} : ∀ {l : List (κ × α)} {ds : List D} {h : Store}, lg l k = some v → Pts (l.map fun p => own p.2) ds h →
    ∃ d V, getK (enc k) (List.zip (l.map fun p => enc p.1) ds) = some d ∧ Sep [own v d, V] h ∧ ∀ w h', Sep [own w d, V] h' → Pts ((lp l k w).map fun p => own p.2) ds h'
  | [], _, _, e, _ => by cases e
  | (q, u) :: r, [], _, _, z => z.elim
  | (q, u) :: r, e :: ds, h, eg, z => by
    have eg : (if q = k then some u else lg r k) = some v := eg
    have gk : getK (enc k) (List.zip (((q, u) :: r).map fun p => enc p.1) (e :: ds)) = if q = k then some e else getK (enc k) (List.zip (r.map fun p => enc p.1) ds) := by
      show (if eqK (enc q) (enc k) = true then some e else _) = _
      rw [eqk_dec]
      by_cases c : q = k
      · rw [if_pos c, decide_eq_true c, if_pos rfl]
      · rw [if_neg c, decide_eq_false c, if_neg Bool.false_ne_true]; rfl
    rw [gk]
    by_cases c : q = k
    · rw [if_pos c] at eg ⊢
      have eu : u = v := Option.some.inj eg
      subst eu
      refine ⟨e, Pts (r.map fun p => own p.2) ds, rfl, pts_sep.mp (show Pts (own u :: r.map fun p => own p.2) (e :: ds) h from z), fun w h' z' => ?_⟩
      show Pts ((if q = k then (q, w) :: r else (q, u) :: lp r k w).map fun p => own p.2) (e :: ds) h'
      rw [if_pos c]
      exact pts_sep.mpr z'
    · rw [if_neg c] at eg ⊢
      obtain ⟨h1, h2, dj, l1, l2, a, t⟩ := z
      obtain ⟨d, V, e1, e2, e3⟩ := lg_pts eg t
      refine ⟨d, Sep [own u e, V], e1, ?_, fun w h' z' => ?_⟩
      · have s : Sep (own u e :: [own v d, V]) h := ⟨h1, h2, dj, l1, l2, a, e2⟩
        have s : Sep (own v d :: ([own u e, V] ++ [])) h := s.swap
        exact s.fold1
      · show Pts ((if q = k then (q, w) :: r else (q, u) :: lp r k w).map fun p => own p.2) (e :: ds) h'
        rw [if_neg c]
        have s : Sep (own w d :: ([own u e, V] ++ [])) h' := z'.flat1
        have s : Sep (own u e :: ([own w d, V] ++ [])) h' := s.swap
        obtain ⟨k1, k2, dj, l1, l2, a, t⟩ := s.fold1
        obtain ⟨k3, k4, _, l3, _, b, _⟩ := t
        exact ⟨k1, k2, dj, l1, l2, a, (e3 w k3 b).up l3⟩
theorem lp_same {κ α : Type} [DecidableEq κ] {k : κ} {v w : α} : ∀ {l : List (κ × α)}, lg l k = some v → (lp l k w).map (fun p => p.1) = l.map (fun p => p.1) := by
  intro l e
  rw [lp_keys, if_pos]
  induction l with
  | nil => cases e
  | cons p r ih =>
    obtain ⟨q, u⟩ := p
    have e : (if q = k then some u else lg r k) = some v := e
    by_cases c : q = k
    · rw [List.map_cons]; exact c ▸ List.mem_cons_self
    · rw [if_neg c] at e
      rw [List.map_cons]
      exact List.mem_cons_of_mem _ (ih e)
/-- a plain thing that is there: no cell is made -/
def CE {α : Type} [Pl α] (W : Wo) (Γ : Cx) (e : Ex) (v : α) : Prop := ∀ env L S, env.length = Γ.length → Sep (Rel Γ env ++ keep W.S0 :: L) S → ∀ Q X, Q (enc v) S → W.E e env S Q X
theorem CE.var {α : Type} [Pl α] {i : Nat} {r : D → HP} {v : α} (e : Γ[i]? = some (some r)) (h : Ent W.S0 r v) : CE W Γ (.var i) v := fun env L S hl hs Q X q => by
  obtain ⟨d, ed, z⟩ := Rel.take e hl hs
  obtain ⟨h1, h2, _, l1, l2, a, t⟩ := z
  have e2 := Pl.rd_iff.mp (h d h1 S a l1 (keep_le hs))
  exact ⟨d, ed, by rw [e2]; exact q⟩
theorem CE.int (i : Int) : CE W Γ (.cst (.int i)) i := fun env L S hl hs Q X q => q
theorem CE.str (i : Str) : CE W Γ (.cst (.str i)) i := fun env L S hl hs Q X q => q
theorem CE.tix {α β : Type} [Pl α] [Pl β] {i : Int} {e : Ex} {v : α} (get : α → β) (H : ∀ v : α, ∃ ds, enc v = .tup ds ∧ atI ds i = some (enc (get v))) (h : CE W Γ e v) : CE W Γ (.ix e (.cst (.int i))) (get v) := fun env L S hl hs Q X q => by
  refine h env L S hl hs _ X ?_
  obtain ⟨ds, e1, e2⟩ := H v
  rw [e1]
  exact ⟨i, _, rfl, e2, q⟩
theorem CE.re {α : Type} [Pl α] {e : Ex} {v : α} (h : CE W Γ e v) : RE W Γ e (some v) := fun w ew env L S Q X hl hs q => by
  cases ew
  exact h env L S hl hs _ X (q _ S .refl (Pl.rd_iff.mpr rfl))
theorem PL.key {κ α : Type} [Ky κ] [DecidableEq κ] [Rp α] {e b : Ex} {x : Dct κ α} {set : Dct κ α → Cx} {k : κ} {v : α} (h : PL W Γ e x set) (hk : CE W Γ b k) (hg : dg x k = some v) : PL W Γ (.ix e b) v (fun w => set (dp x k w)) := fun env L S hl hs => by
  obtain ⟨d, V, r, z, bk⟩ := h env L S hl hs
  obtain ⟨h1, h2, dj, l1, l2, ⟨nd, a, ds, e1, c⟩, t⟩ := z
  have cg := c.get
  have c2 := c.swap
  obtain ⟨k1, k2, dj2, l3, l4, pt, t2⟩ := c2
  obtain ⟨d', V', g1, g2, g3⟩ := lg_pts hg pt
  subst e1
  refine ⟨d', Sep [V', Dc a (kds x ds), V], fun Q X q => r _ _ (hk env L S hl hs _ X ?_), ?_, fun w => ⟨(bk _).1, fun L' S' q => (bk _).2 L' S' ?_⟩⟩
  · exact .inr ⟨_, d', by unfold Store.rd; rw [l1 _ _ cg]; rfl, Ky.key k, g1, q⟩
  · have z : Sep (Sep [Sep [own v d', V'], Dc a (kds x ds)] :: V :: keep W.S0 :: L) S := ⟨h1, h2, dj, l1, l2, ⟨k1, k2, dj2, l3, l4, g2, t2⟩, t⟩
    have z : Sep (Sep [own v d', V'] :: ([Dc a (kds x ds)] ++ (V :: keep W.S0 :: L))) S := z.flat
    have z : Sep ([own v d', V'] ++ ([Dc a (kds x ds)] ++ (V :: keep W.S0 :: L))) S := z.flat
    have z : Sep (own v d' :: ([V', Dc a (kds x ds), V] ++ (keep W.S0 :: L))) S := z
    exact z.fold1
  · have q : Sep (own w d' :: ([V', Dc a (kds x ds), V] ++ (keep W.S0 :: L'))) S' := q.flat1
    have q : Sep ([own w d', V'] ++ ([Dc a (kds x ds)] ++ (V :: keep W.S0 :: L'))) S' := q
    have q : Sep (Sep [own w d', V'] :: Dc a (kds x ds) :: V :: keep W.S0 :: L') S' := q.fold
    have q : Sep (Pts ((lp x.l k w).map fun p => own p.2) ds :: Dc a (kds x ds) :: V :: keep W.S0 :: L') S' := q.imp fun k z => g3 w k z
    have q : Sep ([Dc a (kds x ds), Pts ((lp x.l k w).map fun p => own p.2) ds] ++ (V :: keep W.S0 :: L')) S' := q.swap
    refine q.fold.imp fun k' z => ⟨lp_nodup nd, a, ds, rfl, ?_⟩
    have e : kds (dp x k w) ds = kds x ds := by
      unfold kds
      rw [kz, kz]
      show List.zip (((lp x.l k w).map fun p => p.1).map enc) ds = _
      rw [lp_same hg]
    rw [e]
    exact z
end
section
variable {M C B ρ Θ : Type} {W : Wo} {p : Po M C B ρ Θ} {Γ : Cx} {rest : Sms}
theorem front {A L : List HP} {B k : HP} {S : Store} (h : Sep (B :: (A ++ k :: L)) S) : Sep (A ++ k :: (B :: L)) S := by
  have pm : (B :: (A ++ k :: L)).Perm (A ++ k :: (B :: L)) := by
    have e1 : (B :: (A ++ k :: L)).Perm (A ++ B :: (k :: L)) := List.perm_middle.symm
    exact e1.trans (List.Perm.append_left A (.swap _ _ _))
  exact h.perm pm
theorem pts_snoc {α : Type} [Rp α] {v : α} {d : D} : ∀ {xs : List α} {ds : List D} {L : List HP} {S : Store}, Sep (Pts (xs.map own) ds :: own v d :: L) S → Sep (Pts ((xs ++ [v]).map own) (ds ++ [d]) :: L) S
  | [], [], L, S, h => h.tail.imp fun k z => ⟨k, fun _ => none, fun _ => .inr rfl, .refl, (fun _ _ z => by cases z), z, trivial⟩
  | [], _ :: _, _, _, h => by obtain ⟨_, _, _, _, _, z, _⟩ := h; exact z.elim
  | _ :: _, [], _, _, h => by obtain ⟨_, _, _, _, _, z, _⟩ := h; exact z.elim
  | x :: xs, e :: ds, L, S, h => by
    have h2 : Sep (own x e :: Pts (xs.map own) ds :: own v d :: L) S := by
      have z : Sep (Sep [own x e, Pts (xs.map own) ds] :: own v d :: L) S := h.imp fun k z => pts_sep.mp z
      exact z.flat
    have h3 : Sep (own x e :: Pts ((xs ++ [v]).map own) (ds ++ [d]) :: L) S := h2.under fun S z => pts_snoc z
    have h3 : Sep ([own x e, Pts ((xs ++ [v]).map own) (ds ++ [d])] ++ L) S := h3
    exact h3.fold.imp fun k z => pts_sep.mpr z
/-- a.append(e) -/
theorem J.app {α : Type} [Rp α] {a e : Ex} {xs : List α} {set : List α → Cx} {ov : Option α} {k : α → Option (Out M C B ρ Θ)} (hp : PL W Γ a xs set) (he : VE W Γ e ov) (h : ∀ v, J W p (set (xs ++ [v])) rest (k v)) :
    J W p Γ (.cons (.ex (.bmt a .append (.cons e .nil))) rest) (ov.bind fun v => ask (xs.length < sizeLine) (k v)) := fun r er env L S K hl hs ok => by
  obtain ⟨v, ev, er⟩ := bind_some' er
  obtain ⟨lx, er⟩ := ask_some er
  obtain ⟨d, V, q1, q2, q3⟩ := hp env L S hl hs
  refine q1 _ _ ?_
  obtain ⟨h1, h2, dj, l1, l2, ow, t⟩ := q2
  have q2 : Sep (own xs d :: V :: keep W.S0 :: L) S := ⟨h1, h2, dj, l1, l2, ow, t⟩
  obtain ⟨b, ds, e1, z⟩ := ow
  have ow : own xs d h1 := ⟨b, ds, e1, z⟩
  subst e1
  have cg := l1 _ _ z.get
  refine ⟨.lst, by simp only [kdM, cg], rfl, he v ev env L S _ _ hl hs fun d2 S2 l n => ?_⟩
  have q4 : Sep (own v d2 :: Sep [Ls b ds, Pts (xs.map own) ds] :: V :: keep W.S0 :: L) S2 := n.sep l ⟨h1, h2, dj, l1, l2, z, t⟩
  have q5 : Sep (Ls b ds :: Pts (xs.map own) ds :: own v d2 :: V :: keep W.S0 :: L) S2 := by
    have q5 : Sep ([Ls b ds, Pts (xs.map own) ds] ++ (own v d2 :: V :: keep W.S0 :: L)) S2 := (q4.swap).flat
    exact q5
  have hl2 := z.swap
  obtain ⟨_, _, _, _, _, pt, _⟩ := hl2
  have lds := pt.len
  rw [List.length_map] at lds
  refine ⟨ds, q5.get, by rw [← lds]; exact lx, ?_⟩
  have q6 : Sep (Ls b (ds ++ [d2]) :: Pts (xs.map own) ds :: own v d2 :: V :: keep W.S0 :: L) (S2.upd b (.lst (ds ++ [d2]))) := q5.put
  have q7 : Sep (Ls b (ds ++ [d2]) :: Pts ((xs ++ [v]).map own) (ds ++ [d2]) :: V :: keep W.S0 :: L) (S2.upd b (.lst (ds ++ [d2]))) := q6.under fun S z => pts_snoc z
  have q7 : Sep ([Ls b (ds ++ [d2]), Pts ((xs ++ [v]).map own) (ds ++ [d2])] ++ (V :: keep W.S0 :: L)) (S2.upd b (.lst (ds ++ [d2]))) := q7
  have q8 : Sep (own (xs ++ [v]) (.ref b) :: V :: keep W.S0 :: L) (S2.upd b (.lst (ds ++ [d2]))) := q7.fold.imp fun k z => ⟨b, _, rfl, z⟩
  obtain ⟨b1, b2⟩ := q3 (xs ++ [v])
  exact h v r er env L _ K (hl.trans b1.symm) (b2 _ _ q8) ok
/-- a[i] = e, a dict -/
theorem J.setD {κ α : Type} [Ky κ] [DecidableEq κ] [Rp α] {a i e : Ex} {x : Dct κ α} {set : Dct κ α → Cx} {ok : Option κ} {ov : Option α} {k : κ → α → Option (Out M C B ρ Θ)} (hp : PL W Γ a x set) (hk : RE W Γ i ok) (he : VE W Γ e ov) (h : ∀ q v, J W p (set (dp x q v)) rest (k q v)) :
    J W p Γ (.cons (.asS a i e) rest) (ov.bind fun v => ok.bind fun q => ask (x.l.length < sizeLine) (k q v)) := fun r er env L S K hl hs okk => by
  obtain ⟨v, ev, er⟩ := bind_some' er
  obtain ⟨kk, ek, er⟩ := bind_some' er
  obtain ⟨lx, er⟩ := ask_some er
  refine he v ev env L S _ _ hl hs fun d S1 l1 n => ?_
  have s1 := front (n.sep l1 hs)
  obtain ⟨da, V, q1, q2, q3⟩ := hp env (own v d :: L) S1 hl s1
  refine q1 _ _ (hk kk ek env (own v d :: L) S1 _ _ hl s1 fun dk S3 l3 rk => ?_)
  have q2 := q2.le l3
  have ek2 := Pl.rd_iff.mp rk
  subst ek2
  obtain ⟨h1, h2, dj, m1, m2, ⟨nd, b, ds, e1, z⟩, t⟩ := q2
  subst e1
  obtain ⟨_, _, _, _, _, pt, _⟩ := z.swap
  have lds := pt.len
  rw [List.length_map] at lds
  have lk : (kds x ds).length = x.l.length := by unfold kds; rw [List.length_zip, List.length_map, ← lds, Nat.min_self]
  refine .inr ⟨b, kds x ds, rfl, m1 _ _ z.get, Ky.key kk, by rw [lk]; exact lx, ?_⟩
  have q4 : Sep (Sep [Dc b (kds x ds), Pts (x.l.map fun p => own p.2) ds] :: V :: keep W.S0 :: own v d :: L) S3 := ⟨h1, h2, dj, m1, m2, z, t⟩
  have q5 : Sep ([Dc b (kds x ds), Pts (x.l.map fun p => own p.2) ds] ++ (V :: keep W.S0 :: own v d :: L)) S3 := q4.flat
  have q5 : Sep (Dc b (kds x ds) :: Pts (x.l.map fun p => own p.2) ds :: own v d :: V :: keep W.S0 :: L) S3 := Sep.under (fun S z => Sep.under (fun S z => (Sep.under (fun S y => y.swap) z).swap) z) q5
  have q6 : Sep (Dc b (putK (enc kk) d (kds x ds)) :: Pts (x.l.map fun p => own p.2) ds :: own v d :: V :: keep W.S0 :: L) (S3.upd b (.dic (putK (enc kk) d (kds x ds)))) := q5.put
  have q7 : ∃ ds', kds (dp x kk v) ds' = putK (enc kk) d (kds x ds) ∧ Sep (Dc b (putK (enc kk) d (kds x ds)) :: Pts ((dp x kk v).l.map fun p => own p.2) ds' :: V :: keep W.S0 :: L) (S3.upd b (.dic (putK (enc kk) d (kds x ds)))) := by
    obtain ⟨k1, k2, dj, n1, n2, c, t⟩ := q6
    obtain ⟨ds', e1, e2⟩ := lp_pts (k := kk) nd t
    exact ⟨ds', e1, k1, k2, dj, n1, n2, c, e2⟩
  obtain ⟨ds', e1, q8⟩ := q7
  rw [← e1] at q8 ⊢
  have q8 : Sep ([Dc b (kds (dp x kk v) ds'), Pts ((dp x kk v).l.map fun p => own p.2) ds'] ++ (V :: keep W.S0 :: L)) _ := q8
  have q9 : Sep (own (dp x kk v) (.ref b) :: V :: keep W.S0 :: L) _ := q8.fold.imp fun k z => ⟨lp_nodup nd, b, ds', rfl, z⟩
  obtain ⟨b1, b2⟩ := q3 (dp x kk v)
  exact h kk v r er env L _ K (hl.trans b1.symm) (b2 _ _ q9) okk
end
end SW
/-! J, part G: objects, more of what changes. -/
namespace SW
open PySem L2
open Rp (own rd)
open Pl (enc)
structure Pk where
  β : Type
  i : Rp β
  v : β
abbrev pk {β : Type} [i : Rp β] (v : β) : Pk := ⟨β, i, v⟩
abbrev Pk.o (p : Pk) : D → HP := p.i.own p.v
abbrev Pk.r (p : Pk) : D → HP := p.i.rd p.v
theorem ats_pk {ps : List Pk} : ∀ {ds : List D} {h : Store}, Pts (ps.map Pk.o) ds h → Ats (ps.map Pk.r) ds h := fun {ds h} z =>
  pts_ats (by rw [List.length_map, List.length_map]) (fun i r r' e e' d h h' l q => by
    rw [List.getElem?_map] at e e'
    cases hx : ps[i]? with
    | none => rw [hx] at e; cases e
    | some x =>
      rw [hx] at e e'
      cases e
      cases e'
      exact x.i.rd_up l (x.i.own_rd q)) z
@[reducible] def Rp.ins {α : Type} (c : Nat) (fs : List Nat) (ps : α → List Pk) : Rp α where
  own v := insO c fs ((ps v).map Pk.o)
  rd v := insR c fs ((ps v).map Pk.r)
  own_up l := fun ⟨a, ds, e, z⟩ => ⟨a, ds, e, z.le l⟩
  rd_up l := fun ⟨a, ds, e, x, y⟩ => ⟨a, ds, e, l _ _ x, Ats.up (fun r m d h h' l q => by
    obtain ⟨p, _, rfl⟩ := List.mem_map.mp m
    exact p.i.rd_up l q) l y⟩
  own_rd := fun ⟨a, ds, e, z⟩ => ⟨a, ds, e, z.get, by
    obtain ⟨_, _, _, _, l2, _, h3, h4, _, l3, _, q, _⟩ := z
    exact Ats.up (fun r m d h h' l q => by
      obtain ⟨p, _, rfl⟩ := List.mem_map.mp m
      exact p.i.rd_up l q) (l3.trans l2) (ats_pk q)⟩
def setZ {β : Type} (f : Nat) : List Nat → List β → β → List β
  | g :: fs, x :: xs, y => if f = g then y :: xs else x :: setZ f fs xs y
  | _, xs, _ => xs
theorem lk_ats {f : Nat} {r : D → HP} : ∀ {fs : List Nat} {rs : List (D → HP)} {ds : List D} {h : Store}, (List.zip fs rs).lookup f = some r → Ats rs ds h → ∃ d, (List.zip fs ds).lookup f = some d ∧ r d h
  | [], _, _, _, e, _ => by cases e
  | _ :: _, [], _, _, e, _ => by cases e
  | _ :: _, _ :: _, [], _, _, z => z.elim
  | g :: fs, q :: rs, d :: ds, h, e, z => by
    rw [List.zip_cons_cons, List.lookup_cons] at e ⊢
    cases c : f == g with
    | true => rw [c] at e; cases e; exact ⟨d, rfl, z.1⟩
    | false => rw [c] at e; exact lk_ats e z.2
theorem lk_pts {f : Nat} {r : D → HP} : ∀ {fs : List Nat} {rs : List (D → HP)} {ds : List D} {h : Store}, (List.zip fs rs).lookup f = some r → Pts rs ds h →
    ∃ d V, (List.zip fs ds).lookup f = some d ∧ Sep [r d, V] h ∧ ∀ r' h', Sep [r' d, V] h' → Pts (setZ f fs rs r') ds h'
  | [], _, _, _, e, _ => by cases e
  | _ :: _, [], _, _, e, _ => by cases e
  | _ :: _, _ :: _, [], _, _, z => z.elim
  | g :: fs, q :: rs, d :: ds, h, e, z => by
    rw [List.zip_cons_cons, List.lookup_cons] at e ⊢
    cases c : f == g with
    | true =>
      rw [c] at e; cases e
      refine ⟨d, Pts rs ds, rfl, pts_sep.mp z, fun r' h' z' => ?_⟩
      show Pts (if f = g then r' :: rs else _) _ _
      rw [if_pos (eq_of_beq c)]
      exact pts_sep.mpr z'
    | false =>
      rw [c] at e
      obtain ⟨h1, h2, dj, l1, l2, a, t⟩ := z
      obtain ⟨d', V, e1, e2, e3⟩ := lk_pts e t
      refine ⟨d', Sep [q d, V], e1, ?_, fun r' h' z' => ?_⟩
      · have s : Sep (q d :: [r d', V]) h := ⟨h1, h2, dj, l1, l2, a, e2⟩
        have s : Sep (r d' :: ([q d, V] ++ [])) h := s.swap
        exact s.fold1
      · show Pts (if f = g then r' :: rs else q :: setZ f fs rs r') (d :: ds) h'
        rw [if_neg (fun z => by rw [z, beq_self_eq_true] at c; cases c)]
        have s : Sep (r' d' :: ([q d, V] ++ [])) h' := z'.flat1
        have s : Sep (q d :: ([r' d', V] ++ [])) h' := s.swap
        obtain ⟨k1, k2, dj, l1, l2, a, t⟩ := s.fold1
        obtain ⟨k3, k4, _, l3, _, b, _⟩ := t
        exact ⟨k1, k2, dj, l1, l2, a, (e3 r' k3 b).up l3⟩
theorem putN_zip {f : Nat} {d2 : D} : ∀ {fs : List Nat} {ds : List D} {d : D}, (List.zip fs ds).lookup f = some d → putN f d2 (List.zip fs ds) = List.zip fs (setZ f fs ds d2)
  | [], _, _, e => by cases e
  | _ :: _, [], _, e => by cases e
  | g :: fs, d :: ds, _, e => by
    rw [List.zip_cons_cons, List.lookup_cons] at e
    rw [List.zip_cons_cons]
    show (if f = g then (g, d2) :: List.zip fs ds else (g, d) :: putN f d2 (List.zip fs ds)) = List.zip (g :: fs) (if f = g then d2 :: ds else d :: setZ f fs ds d2)
    cases c : f == g with
    | true => rw [if_pos (eq_of_beq c), if_pos (eq_of_beq c)]; rfl
    | false =>
      rw [c] at e
      have ne : ¬ f = g := fun z => by rw [z, beq_self_eq_true] at c; cases c
      rw [if_neg ne, if_neg ne, putN_zip e]
      rfl
theorem set_pts {f : Nat} {r r2 : D → HP} {d2 : D} : ∀ {fs : List Nat} {rs : List (D → HP)} {ds : List D} {L : List HP} {S : Store}, (List.zip fs rs).lookup f = some r → Sep (Pts rs ds :: r2 d2 :: L) S → Sep (Pts (setZ f fs rs r2) (setZ f fs ds d2) :: L) S
  | [], _, _, _, _, e, _ => by cases e
  | _ :: _, [], _, _, _, e, _ => by cases e
  | _ :: _, _ :: _, [], _, _, _, z => by obtain ⟨_, _, _, _, _, z, _⟩ := z; exact z.elim
  | g :: fs, q :: rs, d :: ds, L, S, e, z => by
    rw [List.zip_cons_cons, List.lookup_cons] at e
    show Sep (Pts (if f = g then r2 :: rs else q :: setZ f fs rs r2) (if f = g then d2 :: ds else d :: setZ f fs ds d2) :: L) S
    have h2 : Sep (q d :: Pts rs ds :: r2 d2 :: L) S := by
      have z : Sep (Sep [q d, Pts rs ds] :: r2 d2 :: L) S := z.imp fun k z => pts_sep.mp z
      exact z.flat
    cases c : f == g with
    | true =>
      rw [if_pos (eq_of_beq c), if_pos (eq_of_beq c)]
      have h3 : Sep ([r2 d2, Pts rs ds] ++ L) S := h2.tail.swap
      exact h3.fold.imp fun k z => pts_sep.mpr z
    | false =>
      rw [c] at e
      have ne : ¬ f = g := fun z => by rw [z, beq_self_eq_true] at c; cases c
      rw [if_neg ne, if_neg ne]
      have h3 : Sep (q d :: Pts (setZ f fs rs r2) (setZ f fs ds d2) :: L) S := h2.under fun S z => set_pts e z
      have h3 : Sep ([q d, Pts (setZ f fs rs r2) (setZ f fs ds d2)] ++ L) S := h3
      exact h3.fold.imp fun k z => pts_sep.mpr z
/-- a field is stored -/
def FS {α β : Type} [Rp α] [Rp β] (f : Nat) (st : α → β → α) : Prop := ∀ v d w d2 L S, Sep (own v d :: own w d2 :: L) S → ∃ a c fs, d = .ref a ∧ S a = some (.ins c fs) ∧ fs.length < 1000 ∧ Sep (own (st v w) d :: L) (S.upd a (.ins c (putN f d2 fs)))
section
variable {α β : Type} {c f : Nat} {fs : List Nat} {ps : α → List Pk}
theorem Ob.of [i : Rp α] (hi : i = Rp.ins c fs ps) : Ob α c := by
  subst hi
  intro v d S z
  obtain ⟨a, ds, e, x, _⟩ := z
  exact ⟨a, _, e, x⟩
theorem FR.of [i : Rp α] [Rp β] {get : α → β} (hi : i = Rp.ins c fs ps) (h : ∀ v, (List.zip fs ((ps v).map Pk.r)).lookup f = some (rd (get v))) : FR f get := by
  subst hi
  intro v d S z
  obtain ⟨a, ds, e, x, y⟩ := z
  obtain ⟨d', e1, e2⟩ := lk_ats (h v) y
  exact ⟨a, c, _, d', e, x, e1, e2⟩
theorem FO.of [i : Rp α] [Rp β] {get : α → β} {st : α → β → α} (hi : i = Rp.ins c fs ps) (h : ∀ v, (List.zip fs ((ps v).map Pk.o)).lookup f = some (own (get v))) (hs : ∀ v w, setZ f fs ((ps v).map Pk.o) (own w) = (ps (st v w)).map Pk.o) : FO f get st := by
  subst hi
  intro v d k z
  obtain ⟨a, ds, e, z⟩ := z
  have cg := z.get
  obtain ⟨k1, k2, dj, l1, l2, pt, t⟩ := z.swap
  obtain ⟨d', V, e1, e2, e3⟩ := lk_pts (h v) pt
  refine ⟨a, c, _, d', Sep [V, Cl a (.ins c (List.zip fs ds))], e, cg, e1, ?_, fun w h' z' => ⟨a, ds, e, ?_⟩⟩
  · have s : Sep (Sep [own (get v) d', V] :: [Cl a (.ins c (List.zip fs ds))]) k := ⟨k1, k2, dj, l1, l2, e2, t⟩
    have s : Sep (own (get v) d' :: ([V, Cl a (.ins c (List.zip fs ds))] ++ [])) k := s.flat
    exact s.fold1
  · have s : Sep (own w d' :: ([V, Cl a (.ins c (List.zip fs ds))] ++ [])) h' := z'.flat1
    have s : Sep ([own w d', V] ++ [Cl a (.ins c (List.zip fs ds))]) h' := s
    have s := s.fold.imp fun k z => e3 _ k z
    rw [hs] at s
    exact s.swap
theorem FS.of [i : Rp α] [Rp β] {st : α → β → α} (hi : i = Rp.ins c fs ps) (hl : fs.length < 1000) (r : α → D → HP) (h : ∀ v, (List.zip fs ((ps v).map Pk.o)).lookup f = some (r v)) (hs : ∀ v w, setZ f fs ((ps v).map Pk.o) (own w) = (ps (st v w)).map Pk.o) : FS f st := by
  subst hi
  intro v d w d2 L S z
  obtain ⟨h1, h2, dj, l1, l2, ⟨a, ds, e, z⟩, t⟩ := z
  subst e
  have cg := l1 _ _ z.get
  obtain ⟨_, _, _, _, _, pt, _⟩ := z.swap
  obtain ⟨d', _, e1, _, _⟩ := lk_pts (h v) pt
  refine ⟨a, c, _, rfl, cg, Nat.lt_of_le_of_lt (by rw [List.length_zip]; exact Nat.min_le_left _ _) hl, ?_⟩
  have s : Sep (Sep [Cl a (.ins c (List.zip fs ds)), Pts ((ps v).map Pk.o) ds] :: own w d2 :: L) S := ⟨h1, h2, dj, l1, l2, z, t⟩
  have s : Sep (Cl a (.ins c (List.zip fs ds)) :: Pts ((ps v).map Pk.o) ds :: own w d2 :: L) S := s.flat
  have s : Sep (Cl a (.ins c (putN f d2 (List.zip fs ds))) :: Pts ((ps v).map Pk.o) ds :: own w d2 :: L) (S.upd a (.ins c (putN f d2 (List.zip fs ds)))) := s.put
  have s := s.under fun S z => set_pts (h v) z
  rw [hs] at s
  have s : Sep ([Cl a (.ins c (putN f d2 (List.zip fs ds))), Pts ((ps (st v w)).map Pk.o) (setZ f fs ds d2)] ++ L) _ := s
  refine s.fold.imp fun k z => ⟨a, setZ f fs ds d2, rfl, ?_⟩
  rw [putN_zip e1] at z
  exact z
end
section
variable {M C B ρ Θ : Type} {W : Wo} {p : Po M C B ρ Θ} {Γ : Cx} {rest : Sms}
/-- a.f += e -/
theorem J.auF {α : Type} [Rp α] {a e : Ex} {f : Nat} {op : Bop} {x : α} {set : α → Cx} {ov : Option Int} {k : Int → Option (Out M C B ρ Θ)} {get : α → Int} {st : α → Int → α} (g : Int → Int → Int) (hop : ∀ i j Q, Q (.int (g i j)) → wpAug op (.int i) (.int j) Q) (HO : FO f get st) (H : FS f st) (hp : PL W Γ a x set) (he : RE W Γ e ov) (h : ∀ v, J W p (set (st x (g (get x) v))) rest (k v)) :
    J W p Γ (.cons (.auF a f op e) rest) (ov.bind k) := fun r er env L S K hl hs ok => by
  obtain ⟨v, ev, er⟩ := bind_some' er
  obtain ⟨da, V, q1, q2, q3⟩ := hp env L S hl hs
  refine q1 _ _ ?_
  obtain ⟨h1, h2, dj, l1, l2, ow, t⟩ := q2
  obtain ⟨b, c, fs, d', V', e1, e2, e3, e4, e5⟩ := HO x da h1 ow
  obtain ⟨_, _, _, _, _, pe, _⟩ := e4
  have pe := Pl.own_iff.mp pe
  subst pe
  refine ⟨b, c, fs, _, e1, l1 _ _ e2, e3, ?_⟩
  refine he v ev env L S _ _ hl hs fun d S1 l3 rv => ?_
  cases rv
  refine hop _ _ _ ?_
  have q2 : Sep (own x da :: V :: keep W.S0 :: L) S1 := Sep.le ⟨h1, h2, dj, l1, l2, ow, t⟩ l3
  have q3' : Sep (own x da :: own (g (get x) v) (.int (g (get x) v)) :: V :: keep W.S0 :: L) S1 := q2.under fun S z => sep_pl rfl z
  obtain ⟨b', c', fs', e1', e2', e3', q4⟩ := H x da _ _ (V :: keep W.S0 :: L) S1 q3'
  rw [e1] at e1'
  cases e1'
  have ec := l3 _ _ (l1 _ _ e2)
  rw [ec] at e2'
  cases e2'
  refine ⟨fs, ec, e3', ?_⟩
  obtain ⟨b1, b2⟩ := q3 (st x (g (get x) v))
  exact h v r er env L _ K (hl.trans b1.symm) (b2 _ _ q4) ok
/-- x += e -/
theorem J.aug {i : Nat} {e : Ex} {r0 : D → HP} {x : Int} {ov : Option Int} {k : Int → Option (Out M C B ρ Θ)} (ei : Γ[i]? = some (some r0)) (hr : Ent W.S0 r0 x) (he : RE W Γ e ov) (h : ∀ v, J W p (Γ.set i (some (own (x + v)))) rest (k v)) : J W p Γ (.cons (.aug i .add e) rest) (ov.bind k) := fun r er env L S K hl hs ok => by
  obtain ⟨v, ev, er⟩ := bind_some' er
  obtain ⟨d, ed, z⟩ := Rel.take ei hl hs
  obtain ⟨h1, h2, _, l1, l2, a, t⟩ := z
  have e2 := Pl.rd_iff.mp (hr d h1 S a l1 (keep_le hs))
  subst e2
  refine ⟨_, ed, he v ev env L S _ _ hl hs fun d S1 l3 rv => ?_⟩
  cases rv
  exact h v r er _ L S1 K (by rw [List.length_set, List.length_set]; exact hl) (Rel.asg hl (sep_pl rfl (hs.le l3))) ok
/-- a[i] = e, a list of plain things -/
theorem J.setL {α : Type} [Pl α] {a i e : Ex} {xs : List α} {set : List α → Cx} {oi : Option Int} {ov : Option α} {k : α → Nat → Option (Out M C B ρ Θ)} (hp : PL W Γ a xs set) (hi : RE W Γ i oi) (he : RE W Γ e ov) (h : ∀ v j, J W p (set (xs.set j v)) rest (k v j)) :
    J W p Γ (.cons (.asS a i e) rest) (ov.bind fun v => oi.bind fun q => (ixN xs.length q).bind fun j => k v j) := fun r er env L S K hl hs okk => by
  obtain ⟨v, ev, er⟩ := bind_some' er
  obtain ⟨q, eq, er⟩ := bind_some' er
  obtain ⟨j, ej, er⟩ := bind_some' er
  refine he v ev env L S _ _ hl hs fun d S1 l1 rv => ?_
  have e1 := Pl.rd_iff.mp rv
  subst e1
  obtain ⟨da, V, q1, q2, q3⟩ := hp env L S1 hl (hs.le l1)
  refine q1 _ _ (hi q eq env L S1 _ _ hl (hs.le l1) fun dk S3 l3 rk => ?_)
  cases rk
  have q2 := q2.le l3
  obtain ⟨h1, h2, dj, m1, m2, ⟨b, ds, e1, z⟩, t⟩ := q2
  subst e1
  obtain ⟨_, _, _, _, _, pt, _⟩ := z.swap
  have e2 := pts_pl.mp pt
  subst e2
  refine .inl ⟨b, _, q, j, rfl, m1 _ _ z.get, rfl, by rw [List.length_map]; exact ej, ?_⟩
  have q4 : Sep (Sep [Ls b (xs.map enc), Pts (xs.map own) (xs.map enc)] :: V :: keep W.S0 :: L) S3 := ⟨h1, h2, dj, m1, m2, z, t⟩
  have q5 : Sep (Ls b (xs.map enc) :: V :: keep W.S0 :: L) S3 := Sep.under (fun S z => z.tail) (show Sep (Ls b (xs.map enc) :: Pts (xs.map own) (xs.map enc) :: V :: keep W.S0 :: L) S3 from q4.flat)
  have em : (xs.map enc).set j (enc v) = (xs.set j v).map enc := by rw [List.map_set]
  rw [em]
  have q6 : Sep (Ls b ((xs.set j v).map enc) :: V :: keep W.S0 :: L) (S3.upd b (.lst ((xs.set j v).map enc))) := q5.put
  have q7 : Sep (own (xs.set j v) (.ref b) :: V :: keep W.S0 :: L) (S3.upd b (.lst ((xs.set j v).map enc))) := q6.imp fun k z => ⟨b, _, rfl, ⟨k, fun _ => none, fun _ => .inr rfl, .refl, (fun _ _ z => by cases z), z, ⟨fun _ => none, fun _ => none, fun _ => .inr rfl, .refl, .refl, pts_pl.mpr rfl, trivial⟩⟩⟩
  obtain ⟨b1, b2⟩ := q3 (xs.set j v)
  exact h v j r er env L _ K (hl.trans b1.symm) (b2 _ _ q7) okk
end
/-! what is taken out of a dict -/
end SW
/-! J, part H: expressions that change things; calls; defs. -/
namespace SW
open PySem L2
open Rp (own rd)
open Pl (enc)
section
variable {W : Wo} {M : Type} {N : M → Cx} {m : M}
theorem XE.v {α : Type} [Rp α] {e : Ex} {o : Option α} (h : VE W (N m) e o) : XE W (N m) e (o.bind fun v => some (v, m)) N := fun v m' ev env L S Q X hl hs q => by
  obtain ⟨w, ew, ev⟩ := bind_some' ev
  cases ev
  exact h _ ew env L S Q X hl hs fun d S' l n => q d S' hl (n.sep l hs)
theorem XE.r {α : Type} [Pl α] {e : Ex} {o : Option α} (h : RE W (N m) e o) : XE W (N m) e (o.bind fun v => some (v, m)) N := .v h.ve
theorem XE.two {α β : Type} [Rp α] [Rp β] {a b : Ex} {oa : Option (α × M)} {ob : M → Option (β × M)} (ha : XE W (N m) a oa N) (hb : ∀ m1, XE W (N m1) b (ob m1) N) {x : α} {y : β} {m1 m2 : M} (ea : oa = some (x, m1)) (eb : ob m1 = some (y, m2)) {env : Env} {L : List HP} {S : Store} {Q : D → D → Store → Prop} {X : PX} (hl : env.length = (N m).length) (hs : Sep (Rel (N m) env ++ keep W.S0 :: L) S)
    (q : ∀ d1 d2 S', env.length = (N m2).length → Sep (own x d1 :: own y d2 :: (Rel (N m2) env ++ keep W.S0 :: L)) S' → Q d1 d2 S') : W.E a env S (fun d1 S1 => W.E b env S1 (fun d2 S2 => Q d1 d2 S2) X) X :=
  ha x m1 ea env L S _ X hl hs fun d1 S1 hl1 hs1 => hb m1 y m2 eb env (own x d1 :: L) S1 _ X hl1 (front hs1) fun d2 S2 hl2 hs2 => by
    refine q d1 d2 S2 hl2 ?_
    have pm : (own y d2 :: (Rel (N m2) env ++ keep W.S0 :: (own x d1 :: L))).Perm (own x d1 :: own y d2 :: (Rel (N m2) env ++ keep W.S0 :: L)) := by
      have e1 : (Rel (N m2) env ++ keep W.S0 :: (own x d1 :: L)).Perm (own x d1 :: (Rel (N m2) env ++ keep W.S0 :: L)) := by
        have e2 : (Rel (N m2) env ++ keep W.S0 :: (own x d1 :: L)).Perm (Rel (N m2) env ++ own x d1 :: keep W.S0 :: L) := List.Perm.append_left _ (.swap _ _ _)
        exact e2.trans List.perm_middle
      exact (e1.cons _).trans (.swap _ _ _)
    exact hs2.perm pm
theorem two_rd {α β : Type} [Rp α] [Rp β] {x : α} {y : β} {d1 d2 : D} {L : List HP} {S : Store} (h : Sep (own x d1 :: own y d2 :: L) S) : rd x d1 S ∧ rd y d2 S := by
  obtain ⟨h1, h2, _, l1, l2, a, h3, h4, _, l3, _, b, _⟩ := h
  exact ⟨Rp.rd_up l1 (Rp.own_rd a), Rp.rd_up (l3.trans l2) (Rp.own_rd b)⟩
theorem one_rd {α : Type} [Rp α] {x : α} {d1 : D} {L : List HP} {S : Store} (h : Sep (own x d1 :: L) S) : rd x d1 S := by
  obtain ⟨h1, h2, _, l1, l2, a, _⟩ := h
  exact Rp.rd_up l1 (Rp.own_rd a)
/-- what an operator does, plain -/
def BinS {α β γ : Type} [Rp α] [Rp β] [Pl γ] (op : Bop) (f : α → β → Option γ) : Prop := ∀ x y z d1 d2 S Q, f x y = some z → rd x d1 S → rd y d2 S → Q (enc z) S → wpBin op d1 d2 S Q
def CmpS {α β : Type} [Rp α] [Rp β] (op : Cop) (f : α → β → Option Bool) : Prop := ∀ x y z d1 d2 S Q, f x y = some z → rd x d1 S → rd y d2 S → Q z → wpCop op d1 d2 S Q
def IxS {α β γ : Type} [Rp α] [Rp β] [Pl γ] (f : α → β → Option γ) : Prop := ∀ x y z d1 d2 S Q, f x y = some z → rd x d1 S → rd y d2 S → Q (enc z) → wpIx d1 d2 S Q
theorem bs_add : BinS .add (fun x y : Int => some (x + y)) := fun x y z d1 d2 S Q e r1 r2 q => by cases e; cases r1; cases r2; exact q
theorem bs_mul : BinS .mul mulO := fun x y z d1 d2 S Q e r1 r2 q => by obtain ⟨p, e⟩ := ask_some e; cases e; cases r1; cases r2; exact ⟨p, q⟩
theorem cs_gt : CmpS .gt (fun x y : Int => some (decide (y < x))) := fun x y z d1 d2 S Q e r1 r2 q => by cases e; cases r1; cases r2; exact q
theorem is_lix {α : Type} [Pl α] : IxS (fun (x : List α) (y : Int) => atI x y) := fun x y z d1 d2 S Q e r1 r2 q => by
  cases r2
  obtain ⟨a, ds, rfl, e1, r1⟩ := r1
  obtain ⟨d, e2, r⟩ := ats_at r1 e
  have e3 := Pl.rd_iff.mp r
  subst e3
  exact .inl ⟨ds, y, _, e1, rfl, e2, q⟩
theorem XE.bin {α β γ : Type} [Rp α] [Rp β] [Pl γ] {op : Bop} {a b : Ex} {oa : Option (α × M)} {ob : M → Option (β × M)} {f : α → β → Option γ} (H : BinS op f) (ha : XE W (N m) a oa N) (hb : ∀ m1, XE W (N m1) b (ob m1) N) :
    XE W (N m) (.bin op a b) (oa.bind fun p => (ob p.2).bind fun q => (f p.1 q.1).bind fun z => some (z, q.2)) N := fun v m' ev env L S Q X hl hs q => by
  obtain ⟨⟨x, m1⟩, ea, ev⟩ := bind_some' ev
  obtain ⟨⟨y, m2⟩, eb, ev⟩ := bind_some' ev
  obtain ⟨z, ez, ev⟩ := bind_some' ev
  cases ev
  exact ha.two hb ea eb hl hs fun d1 d2 S' hl' hs' => H x y v d1 d2 S' Q ez (two_rd hs').1 (two_rd hs').2 (q _ S' hl' (sep_pl rfl hs'.tail.tail))
theorem XE.cmp {α β : Type} [Rp α] [Rp β] {op : Cop} {a b : Ex} {oa : Option (α × M)} {ob : M → Option (β × M)} {f : α → β → Option Bool} (H : CmpS op f) (ha : XE W (N m) a oa N) (hb : ∀ m1, XE W (N m1) b (ob m1) N) :
    XE W (N m) (.cmp op a b) (oa.bind fun p => (ob p.2).bind fun q => (f p.1 q.1).bind fun z => some (z, q.2)) N := fun v m' ev env L S Q X hl hs q => by
  obtain ⟨⟨x, m1⟩, ea, ev⟩ := bind_some' ev
  obtain ⟨⟨y, m2⟩, eb, ev⟩ := bind_some' ev
  obtain ⟨z, ez, ev⟩ := bind_some' ev
  cases ev
  exact ha.two hb ea eb hl hs fun d1 d2 S' hl' hs' => H x y v d1 d2 S' _ ez (two_rd hs').1 (two_rd hs').2 (q _ S' hl' (sep_pl rfl hs'.tail.tail))
theorem XE.ix {α β γ : Type} [Rp α] [Rp β] [Pl γ] {a b : Ex} {oa : Option (α × M)} {ob : M → Option (β × M)} {f : α → β → Option γ} (H : IxS f) (ha : XE W (N m) a oa N) (hb : ∀ m1, XE W (N m1) b (ob m1) N) :
    XE W (N m) (.ix a b) (oa.bind fun p => (ob p.2).bind fun q => (f p.1 q.1).bind fun z => some (z, q.2)) N := fun v m' ev env L S Q X hl hs q => by
  obtain ⟨⟨x, m1⟩, ea, ev⟩ := bind_some' ev
  obtain ⟨⟨y, m2⟩, eb, ev⟩ := bind_some' ev
  obtain ⟨z, ez, ev⟩ := bind_some' ev
  cases ev
  exact ha.two hb ea eb hl hs fun d1 d2 S' hl' hs' => H x y v d1 d2 S' _ ez (two_rd hs').1 (two_rd hs').2 (q _ S' hl' (sep_pl rfl hs'.tail.tail))
/-- a list that is read at a place that may change: e reads as o whatever the state -/
theorem XE.rx {α β γ : Type} [Rp α] [Rp β] [Pl γ] {a b : Ex} {oa : Option α} {ob : Option (β × M)} {f : α → β → Option γ} (H : IxS f) (ha : KE W (N m) a oa) (hb : XE W (N m) b ob N) :
    XE W (N m) (.ix a b) (oa.bind fun x => ob.bind fun q => (f x q.1).bind fun z => some (z, q.2)) N := fun v m' ev env L S Q X hl hs q => by
  obtain ⟨x, ea, ev⟩ := bind_some' ev
  obtain ⟨⟨y, m2⟩, eb, ev⟩ := bind_some' ev
  obtain ⟨z, ez, ev⟩ := bind_some' ev
  cases ev
  refine ha x ea env L S _ X hl hs fun d1 S1 l1 r1 => hb y m2 eb env L S1 _ X hl (hs.le l1) fun d2 S2 hl2 hs2 => ?_
  exact H x y v d1 d2 S2 _ ez (Rp.rd_up (keep_le (A := own y d2 :: Rel (N m2) env) hs2) r1) (one_rd hs2) (q _ S2 hl2 (sep_pl rfl hs2.tail))
theorem XE.an {a b : Ex} {oa : Option (Bool × M)} {ob : M → Option (Bool × M)} (ha : XE W (N m) a oa N) (hb : ∀ m1, XE W (N m1) b (ob m1) N) : XE W (N m) (.an a b) (oa.bind fun p => bif p.1 then ob p.2 else some (false, p.2)) N := fun v m' ev env L S Q X hl hs q => by
  obtain ⟨⟨x, m1⟩, ea, ev⟩ := bind_some' ev
  refine ha x m1 ea env L S _ X hl hs fun d1 S1 hl1 hs1 => ?_
  have e1 := sep_plE hs1
  subst e1
  refine ⟨x, rfl, ?_⟩
  cases x with
  | true => rw [if_pos rfl]; exact hb m1 v m' ev env L S1 Q X hl1 hs1.tail q
  | false => rw [if_neg Bool.false_ne_true]; cases ev; exact q _ S1 hl1 hs1
theorem XE.or {a b : Ex} {oa : Option (Bool × M)} {ob : M → Option (Bool × M)} (ha : XE W (N m) a oa N) (hb : ∀ m1, XE W (N m1) b (ob m1) N) : XE W (N m) (.or a b) (oa.bind fun p => bif p.1 then some (true, p.2) else ob p.2) N := fun v m' ev env L S Q X hl hs q => by
  obtain ⟨⟨x, m1⟩, ea, ev⟩ := bind_some' ev
  refine ha x m1 ea env L S _ X hl hs fun d1 S1 hl1 hs1 => ?_
  have e1 := sep_plE hs1
  subst e1
  refine ⟨x, rfl, ?_⟩
  cases x with
  | false => rw [if_neg Bool.false_ne_true]; exact hb m1 v m' ev env L S1 Q X hl1 hs1.tail q
  | true => rw [if_pos rfl]; cases ev; exact q _ S1 hl1 hs1
theorem XE.no {a : Ex} {oa : Option (Bool × M)} (ha : XE W (N m) a oa N) : XE W (N m) (.no a) (oa.bind fun p => some (!p.1, p.2)) N := fun v m' ev env L S Q X hl hs q => by
  obtain ⟨⟨x, m1⟩, ea, ev⟩ := bind_some' ev
  cases ev
  refine ha x _ ea env L S _ X hl hs fun d1 S1 hl1 hs1 => ?_
  have e1 := sep_plE hs1
  subst e1
  exact ⟨x, rfl, q _ S1 hl1 (sep_pl rfl hs1.tail)⟩
theorem XE.ife {α : Type} [Rp α] {t a b : Ex} {ot : Option (Bool × M)} {oa ob : M → Option (α × M)} (ht : XE W (N m) t ot N) (ha : ∀ m1, XE W (N m1) a (oa m1) N) (hb : ∀ m1, XE W (N m1) b (ob m1) N) : XE W (N m) (.ife t a b) (ot.bind fun p => bif p.1 then oa p.2 else ob p.2) N := fun v m' ev env L S Q X hl hs q => by
  obtain ⟨⟨x, m1⟩, et, ev⟩ := bind_some' ev
  refine ht x m1 et env L S _ X hl hs fun d1 S1 hl1 hs1 => ?_
  have e1 := sep_plE hs1
  subst e1
  refine ⟨x, rfl, ?_⟩
  cases x with
  | true => rw [if_pos rfl]; exact ha m1 v m' ev env L S1 Q X hl1 hs1.tail q
  | false => rw [if_neg Bool.false_ne_true]; exact hb m1 v m' ev env L S1 Q X hl1 hs1.tail q
/-- plain things one behind the other -/
def XP {τ : Type} (W : Wo) (N : M → Cx) (m : M) (es : Exs) (o : Option (τ × M)) (ec : τ → List D) : Prop := ∀ v m', o = some (v, m') → ∀ env L S Q X, env.length = (N m).length → Sep (Rel (N m) env ++ keep W.S0 :: L) S →
  (∀ S', env.length = (N m').length → Sep (Rel (N m') env ++ keep W.S0 :: L) S' → Q (ec v) S') → W.Es es env S Q X
theorem XP.nil : XP W N m .nil (some ((), m)) (fun _ => []) := fun v m' ev env L S Q X hl hs q => by cases ev; exact q S hl hs
theorem XP.cons {α τ : Type} [Pl α] {e : Ex} {es : Exs} {oa : Option (α × M)} {o : M → Option (τ × M)} {ec : τ → List D} (ha : XE W (N m) e oa N) (h : ∀ m1, XP W N m1 es (o m1) ec) : XP W N m (.cons e es) (oa.bind fun p => (o p.2).bind fun q => some ((p.1, q.1), q.2)) (fun v => enc v.1 :: ec v.2) := fun v m' ev env L S Q X hl hs q => by
  obtain ⟨⟨x, m1⟩, ea, ev⟩ := bind_some' ev
  obtain ⟨⟨y, m2⟩, eb, ev⟩ := bind_some' ev
  cases ev
  refine ha x m1 ea env L S _ X hl hs fun d1 S1 hl1 hs1 => ?_
  have e1 := sep_plE hs1
  subst e1
  exact h m1 y m2 eb env L S1 _ X hl1 hs1.tail fun S2 hl2 hs2 => q S2 hl2 hs2
theorem XE.tup {τ α : Type} [Pl α] {es : Exs} {o : Option (τ × M)} {ec : τ → List D} (mk : τ → α) (H : ∀ v, enc (mk v) = .tup (ec v)) (hn : ∀ v, (ec v).length ≤ 1000) (h : XP W N m es o ec) : XE W (N m) (.tup es) (o.bind fun p => some (mk p.1, p.2)) N := fun v m' ev env L S Q X hl hs q => by
  obtain ⟨⟨x, m1⟩, ea, ev⟩ := bind_some' ev
  cases ev
  exact h x _ ea env L S _ X hl hs fun S' hl' hs' => ⟨sz (hn x), by
    have q := q (enc (mk x)) S' hl' (sep_pl rfl hs')
    rw [H x] at q
    exact q⟩
theorem XE.lst {τ α : Type} [Pl α] {es : Exs} {o : Option (τ × M)} {ec : τ → List D} (mk : τ → List α) (H : ∀ v, (mk v).map enc = ec v) (hn : ∀ v, (ec v).length ≤ 1000) (h : XP W N m es o ec) : XE W (N m) (.lst es) (o.bind fun p => some (mk p.1, p.2)) N := fun v m' ev env L S Q X hl hs q => by
  obtain ⟨⟨x, m1⟩, ea, ev⟩ := bind_some' ev
  cases ev
  exact h x _ ea env L S _ X hl hs fun S' hl' hs' => ⟨sz (hn x), fun a ha => q _ _ hl' (by
    rw [← H x]
    exact (New.lst ha).sep (.upd ha) hs')⟩
/-! ### calls that change what is handed in -/
inductive Ak where
  | val (r : D → HP) | mut (i : Nat)
def Ak.ok (env : Env) : Ak → D → Prop
  | .val r, d => r d fun _ => none
  | .mut i, d => env[i]? = some (some d)
def Aks (env : Env) : List Ak → List D → Prop
  | [], [] => True
  | k :: ks, d :: ds => k.ok env d ∧ Aks env ks ds
  | _, _ => False
theorem Aks.len {env : Env} : ∀ {ks : List Ak} {ds : List D}, Aks env ks ds → ks.length = ds.length
  | [], [], _ => rfl
  | _ :: _, _ :: _, h => by rw [List.length_cons, List.length_cons, Aks.len h.2]
  | [], _ :: _, h => h.elim
  | _ :: _, [], h => h.elim
def MA {τ : Type} (W : Wo) (N : M → Cx) (m : M) (es : Exs) (o : Option (τ × M)) (ks : τ → List Ak) : Prop := ∀ v m', o = some (v, m') → ∀ env L S Q X, env.length = (N m).length → Sep (Rel (N m) env ++ keep W.S0 :: L) S →
  (∀ ds S', env.length = (N m').length → Sep (Rel (N m') env ++ keep W.S0 :: L) S' → Aks env (ks v) ds → Q ds S') → W.Es es env S Q X
theorem MA.nil : MA W N m .nil (some ((), m)) (fun _ => []) := fun v m' ev env L S Q X hl hs q => by cases ev; exact q [] S hl hs trivial
theorem MA.val {α τ : Type} [Pl α] {e : Ex} {es : Exs} {oa : Option (α × M)} {o : M → Option (τ × M)} {ks : τ → List Ak} (ha : XE W (N m) e oa N) (h : ∀ m1, MA W N m1 es (o m1) ks) : MA W N m (.cons e es) (oa.bind fun p => (o p.2).bind fun q => some ((p.1, q.1), q.2)) (fun v => .val (own v.1) :: ks v.2) := fun v m' ev env L S Q X hl hs q => by
  obtain ⟨⟨x, m1⟩, ea, ev⟩ := bind_some' ev
  obtain ⟨⟨y, m2⟩, eb, ev⟩ := bind_some' ev
  cases ev
  refine ha x m1 ea env L S _ X hl hs fun d1 S1 hl1 hs1 => ?_
  have e1 := sep_plE hs1
  subst e1
  exact h m1 y m2 eb env L S1 _ X hl1 hs1.tail fun ds S2 hl2 hs2 a => q _ S2 hl2 hs2 ⟨Pl.own_iff.mpr rfl, a⟩
theorem MA.keep {α τ : Type} [Rp α] {e : Ex} {es : Exs} {oa : Option α} {o : Option (τ × M)} {ks : τ → List Ak} (ha : KE W (N m) e oa) (h : MA W N m es o ks) : MA W N m (.cons e es) (oa.bind fun x => o.bind fun q => some ((x, q.1), q.2)) (fun v => .val (ro W.S0 v.1) :: ks v.2) := fun v m' ev env L S Q X hl hs q => by
  obtain ⟨x, ea, ev⟩ := bind_some' ev
  obtain ⟨⟨y, m2⟩, eb, ev⟩ := bind_some' ev
  cases ev
  exact ha x ea env L S _ X hl hs fun d1 S1 l1 r1 => h y m2 eb env L S1 _ X hl (hs.le l1) fun ds S2 hl2 hs2 a => q _ S2 hl2 hs2 ⟨r1, a⟩
theorem MA.mut {τ : Type} {i : Nat} {es : Exs} {r : D → HP} {o : Option (τ × M)} {ks : τ → List Ak} (e : (N m)[i]? = some (some r)) (h : MA W N m es o ks) : MA W N m (.cons (.var i) es) o (fun v => .mut i :: ks v) := fun v m' ev env L S Q X hl hs q => by
  obtain ⟨d, ed, _⟩ := Rel.take e hl hs
  exact ⟨d, ed, h v m' ev env L S _ X hl hs fun ds S2 hl2 hs2 a => q _ S2 hl2 hs2 ⟨ed, a⟩⟩
def eqd (d0 : D) : D → HP := fun d _ => d = d0
inductive Asm : Cx → List Ak → List (D → HP) → Cx → Prop
  | nil {Γ} : Asm Γ [] [] Γ
  | val {Γ Γ' ks rs r} : Asm Γ ks rs Γ' → Asm Γ (.val r :: ks) (r :: rs) Γ'
  | own {Γ Γ' ks rs r i} : Γ[i]? = some (some r) → Asm (Γ.set i none) ks rs Γ' → Asm Γ (.mut i :: ks) (r :: rs) Γ'
  | pin {Γ Γ' : Cx} {ks rs i} {α : Type} [Rp α] {x : α} {d0 : D} : Γ[i]? = some (some (SW.pin d0 x)) → Asm (Γ.set i (some (eqd d0))) ks rs Γ' → Asm Γ (.mut i :: ks) (Rp.own x :: rs) Γ'
inductive Dsm : Cx → List Ak → List (D → HP) → Cx → Prop
  | nil {Γ} : Dsm Γ [] [] Γ
  | val {Γ Γ' ks rs r r0} : Dsm Γ ks rs Γ' → Dsm Γ (.val r0 :: ks) (r :: rs) Γ'
  | own {Γ Γ' : Cx} {ks rs r i} : Dsm Γ ks rs Γ' → i < Γ'.length → Dsm Γ (.mut i :: ks) (r :: rs) (Γ'.set i (some r))
  | pin {Γ Γ' : Cx} {ks rs i} {α : Type} [Rp α] {x : α} {d0 : D} : Dsm Γ ks rs Γ' → Γ'[i]? = some (some (eqd d0)) → Dsm Γ (.mut i :: ks) (Rp.own x :: rs) (Γ'.set i (some (SW.pin d0 x)))
theorem Asm.go {Γ Γ' : Cx} {ks : List Ak} {rs : List (D → HP)} (h : Asm Γ ks rs Γ') : ∀ {env : Env} {ds : List D} {L : List HP} {S : Store}, env.length = Γ.length → Aks env ks ds → Sep (Rel Γ env ++ L) S → env.length = Γ'.length ∧ Sep (Rel (rs.map some) (ds.map some) ++ (Rel Γ' env ++ L)) S := by
  induction h with
  | nil =>
    intro env ds L S hl a hs
    cases ds with
    | nil => exact ⟨hl, hs⟩
    | cons => exact a.elim
  | @val Γ Γ' ks rs r _ ih =>
    intro env ds L S hl a hs
    cases ds with
    | nil => exact a.elim
    | cons d ds =>
      obtain ⟨e, z⟩ := ih hl a.2 hs
      exact ⟨e, ⟨fun _ => none, S, fun _ => .inl rfl, (fun _ _ z => by cases z), .refl, ⟨d, rfl, a.1⟩, z⟩⟩
  | @own Γ Γ' ks rs r i e _ ih =>
    intro env ds L S hl a hs
    cases ds with
    | nil => exact a.elim
    | cons d ds =>
      obtain ⟨d', ed, z⟩ := Rel.take e hl hs
      have e2 : env[i]? = some (some d) := a.1
      rw [ed] at e2
      cases e2
      obtain ⟨h1, h2, dj, l1, l2, q, t⟩ := z
      obtain ⟨e3, z⟩ := ih (by rw [List.length_set]; exact hl) a.2 t
      exact ⟨e3, ⟨h1, h2, dj, l1, l2, ⟨d, rfl, q⟩, z⟩⟩
  | @pin Γ Γ' ks rs i α _ x d0 e _ ih =>
    intro env ds L S hl a hs
    cases ds with
    | nil => exact a.elim
    | cons d ds =>
      obtain ⟨d', ed, z⟩ := Rel.take e hl hs
      have e2 : env[i]? = some (some d) := a.1
      rw [ed] at e2
      cases e2
      obtain ⟨h1, h2, dj, l1, l2, ⟨q0, q⟩, t⟩ := z
      subst q0
      have t : Sep (Rel (Γ.set i (some (eqd d))) env ++ L) h2 := by
        have t := Rel.put (r := eqd d) (d := d) (by rw [List.length_set]; exact (List.getElem?_eq_some_iff.mp e).1) ed (Sep.fact (p := eqd d d fun _ => none) rfl t)
        rw [List.set_set] at t
        exact t
      obtain ⟨e3, z⟩ := ih (by rw [List.length_set]; exact hl) a.2 t
      exact ⟨e3, ⟨h1, h2, dj, l1, l2, ⟨d, rfl, q⟩, z⟩⟩
theorem Dsm.go {Γ Γ' : Cx} {ks : List Ak} {rs : List (D → HP)} (h : Dsm Γ ks rs Γ') : ∀ {env : Env} {ds : List D} {L : List HP} {S : Store}, env.length = Γ.length → Aks env ks ds → Sep (Rel (rs.map some) (ds.map some) ++ (Rel Γ env ++ L)) S → env.length = Γ'.length ∧ Sep (Rel Γ' env ++ L) S := by
  induction h with
  | nil =>
    intro env ds L S hl a hs
    cases ds with
    | nil => exact ⟨hl, hs⟩
    | cons => exact a.elim
  | @val Γ' ks rs r r0 _ ih =>
    intro env ds L S hl a hs
    cases ds with
    | nil => exact a.elim
    | cons d ds => exact ih hl a.2 hs.tail
  | @own Γ' ks rs r i _ hi ih =>
    intro env ds L S hl a hs
    cases ds with
    | nil => exact a.elim
    | cons d ds =>
      obtain ⟨h1, h2, dj, l1, l2, ⟨d', ed, q⟩, t⟩ := hs
      cases ed
      obtain ⟨e, t⟩ := ih hl a.2 t
      exact ⟨by rw [List.length_set]; exact e, Rel.put hi a.1 ⟨h1, h2, dj, l1, l2, q, t⟩⟩
  | @pin Γ' ks rs i α _ x d0 _ e0 ih =>
    intro env ds L S hl a hs
    cases ds with
    | nil => exact a.elim
    | cons d ds =>
      obtain ⟨h1, h2, dj, l1, l2, ⟨d', ed, q⟩, t⟩ := hs
      cases ed
      obtain ⟨e, t⟩ := ih hl a.2 t
      obtain ⟨d2, ed2, t2⟩ := Rel.take e0 e t
      have e4 : env[i]? = some (some d) := a.1
      rw [ed2] at e4
      cases e4
      have q0 : d = d0 := by
        obtain ⟨_, _, _, _, _, z, _⟩ := t2
        exact z
      exact ⟨by rw [List.length_set]; exact e, Rel.put (r := SW.pin d0 x) (List.getElem?_eq_some_iff.mp e0).1 a.1 ⟨h1, h2, dj, l1, l2, ⟨q0, q⟩, t⟩⟩
theorem Asm.len {Γ Γ' : Cx} {ks : List Ak} {rs : List (D → HP)} (h : Asm Γ ks rs Γ') : ks.length = rs.length := by
  induction h with
  | nil => rfl
  | val _ ih => rw [List.length_cons, List.length_cons, ih]
  | own _ _ ih => rw [List.length_cons, List.length_cons, ih]
  | pin _ _ ih => rw [List.length_cons, List.length_cons, ih]
/-- a def that may change what is handed in -/
def SpX {ρ Θ : Type} [Rp ρ] (P : Prg) (T : Nat → Option FD) (n f : Nat) (As : Store → Θ → List (D → HP)) (θ : Θ) (o : Option (ρ × Θ)) : Prop :=
  ∀ k, n ≤ k → ∀ v θ', o = some (v, θ') → ∀ S0 ds L S Q X, ds.length = (As S0 θ).length → Sep (Rel ((As S0 θ).map some) (ds.map some) ++ keep S0 :: L) S → (∀ d S', Sep (own v d :: (Rel ((As S0 θ').map some) (ds.map some) ++ keep S0 :: L)) S' → Q d S') → run P T k f ds S Q X
/-- a def that refuses -/
def SpE {Θ : Type} (P : Prg) (T : Nat → Option FD) (n f : Nat) (As : Store → Θ → List (D → HP)) (θ : Θ) (o : Option (Nat × Θ)) : Prop :=
  ∀ k, n ≤ k → ∀ c θ', o = some (c, θ') → ∀ S0 ds L S Q X, ds.length = (As S0 θ).length → Sep (Rel ((As S0 θ).map some) (ds.map some) ++ keep S0 :: L) S → (∀ S', Sep (Rel ((As S0 θ').map some) (ds.map some) ++ keep S0 :: L) S' → X c S') → run P T k f ds S Q X
theorem mid {A B L : List HP} {k : HP} {S : Store} : Sep (A ++ (B ++ k :: L)) S ↔ Sep (A ++ k :: (B ++ L)) S := ⟨fun h => h.perm (List.Perm.append_left A List.perm_middle), fun h => h.perm (List.Perm.append_left A List.perm_middle.symm)⟩
theorem XE.call {τ Θ ρ : Type} [Rp ρ] {f n : Nat} {es : Exs} {o : Option (τ × M)} {ks : τ → List Ak} {As : τ → M → Store → Θ → List (D → HP)} {θ : τ → M → Θ} {g : τ → M → Option (ρ × Θ)} {Γr : τ → M → Cx} {up : τ → M → Θ → M} (h : MA W N m es o ks) (sp : ∀ v m1, SpX W.P W.T n f (As v m1) (θ v m1) (g v m1)) (hj : n ≤ W.j)
    (ha : ∀ v m1, Asm (N m1) (ks v) (As v m1 W.S0 (θ v m1)) (Γr v m1)) (hd : ∀ v m1 θ', Dsm (Γr v m1) (ks v) (As v m1 W.S0 θ') (N (up v m1 θ'))) :
    XE W (N m) (.call f es) (o.bind fun p => (g p.1 p.2).bind fun q => some (q.1, up p.1 p.2 q.2)) N := fun v m' ev env L S Q X hl hs q => by
  obtain ⟨⟨x, m1⟩, eo, ev⟩ := bind_some' ev
  obtain ⟨⟨y, θ'⟩, eg, ev⟩ := bind_some' ev
  cases ev
  refine h x m1 eo env L S _ X hl hs fun ds S1 hl1 hs1 a => ?_
  obtain ⟨hl2, hs2⟩ := (ha x m1).go hl1 a hs1
  have al := (ha x m1).len
  refine sp x m1 W.j hj _ θ' eg W.S0 ds (Rel (Γr x m1) env ++ L) S1 Q X (by rw [← al, a.len]) (mid.mp hs2) fun d S' hs' => ?_
  have hs3 : Sep (own _ d :: (Rel ((As x m1 W.S0 θ').map some) (ds.map some) ++ (Rel (Γr x m1) env ++ keep W.S0 :: L))) S' := hs'.under fun S z => mid.mpr z
  obtain ⟨h1, h2, dj, l1, l2, w, t⟩ := hs3
  obtain ⟨hl4, t⟩ := (hd x m1 θ').go hl2 a t
  exact q d S' hl4 ⟨h1, h2, dj, l1, l2, w, t⟩
end
end SW
/-! J, part I: statements over what changes; loops; defs. -/
namespace SW
open PySem L2
open Rp (own rd)
open Pl (enc)
/-- what is handed in, kept or plain -/
def KAs {τ : Type} (W : Wo) (Γ : Cx) (es : Exs) (o : Option τ) (rs : τ → List (D → HP)) : Prop := ∀ v, o = some v → ∀ env L S Q X, env.length = Γ.length → Sep (Rel Γ env ++ keep W.S0 :: L) S →
  (∀ ds S', Le S S' → Ats (rs v) ds (fun _ => none) → Q ds S') → W.Es es env S Q X
theorem rel_drop {L : List HP} : ∀ {Γ : Cx} {env : Env} {S : Store}, Sep (Rel Γ env ++ L) S → Sep L S
  | [], _, _, h => by unfold Rel at h; exact h
  | _ :: _, [], _, h => h
  | _ :: _, _ :: _, _, h => rel_drop h.tail
section
variable {W : Wo} {Γ : Cx}
theorem KAs.nil : KAs W Γ .nil (some ()) (fun _ => []) := fun v ev env L S Q X hl hs q => q [] S .refl trivial
theorem KAs.val {α τ : Type} [Pl α] {e : Ex} {es : Exs} {oa : Option α} {o : Option τ} {rs : τ → List (D → HP)} (ha : RE W Γ e oa) (h : KAs W Γ es o rs) : KAs W Γ (.cons e es) (oa.bind fun x => o.bind fun v => some (x, v)) (fun p => own p.1 :: rs p.2) := fun v ev env L S Q X hl hs q => by
  obtain ⟨x, ea, ev⟩ := bind_some' ev
  obtain ⟨y, eo, ev⟩ := bind_some' ev
  cases ev
  exact ha.one ea hl hs fun d S1 l1 r1 hs1 => h y eo env L S1 _ X hl hs1 fun ds S2 l2 r2 => q (d :: ds) S2 (l1.trans l2) ⟨Pl.own_iff.mpr (Pl.rd_iff.mp r1), r2⟩
theorem KAs.keep {α τ : Type} [Rp α] {e : Ex} {es : Exs} {oa : Option α} {o : Option τ} {rs : τ → List (D → HP)} (ha : KE W Γ e oa) (h : KAs W Γ es o rs) : KAs W Γ (.cons e es) (oa.bind fun x => o.bind fun v => some (x, v)) (fun p => ro W.S0 p.1 :: rs p.2) := fun v ev env L S Q X hl hs q => by
  obtain ⟨x, ea, ev⟩ := bind_some' ev
  obtain ⟨y, eo, ev⟩ := bind_some' ev
  cases ev
  exact ha x ea env L S _ X hl hs fun d S1 l1 r1 => h y eo env L S1 _ X hl (hs.le l1) fun ds S2 l2 r2 => q (d :: ds) S2 (l1.trans l2) ⟨r1, r2⟩
/-- a list's item is taken out -/
theorem pts_erase {α : Type} [Rp α] {v : α} : ∀ {xs : List α} {ds : List D} {j : Nat} {L : List HP} {S : Store}, xs[j]? = some v → Sep (Pts (xs.map own) ds :: L) S → ∃ d, ds[j]? = some d ∧ Sep (own v d :: Pts ((xs.eraseIdx j).map own) (ds.eraseIdx j) :: L) S
  | [], _, _, _, _, e, _ => by cases e
  | _ :: _, [], _, _, _, _, h => by obtain ⟨_, _, _, _, _, z, _⟩ := h; exact z.elim
  | x :: xs, e :: ds, 0, L, S, ex, h => by
    have ex : x = v := Option.some.inj ex
    subst ex
    have z : Sep (Sep [own x e, Pts (xs.map own) ds] :: L) S := h.imp fun k z => pts_sep.mp z
    exact ⟨e, rfl, z.flat⟩
  | x :: xs, e :: ds, j + 1, L, S, ex, h => by
    have z : Sep (Sep [own x e, Pts (xs.map own) ds] :: L) S := h.imp fun k z => pts_sep.mp z
    have z : Sep (Pts (xs.map own) ds :: own x e :: L) S := (show Sep (own x e :: Pts (xs.map own) ds :: L) S from z.flat).swap
    obtain ⟨d, e1, z⟩ := pts_erase (j := j) ex z
    refine ⟨d, e1, z.under fun S z => ?_⟩
    have z : Sep ([own x e, Pts ((xs.eraseIdx j).map own) (ds.eraseIdx j)] ++ L) S := z.swap
    exact z.fold.imp fun k z => pts_sep.mpr z
end
section
variable {M C B ρ Θ : Type} {W : Wo} {p : Po M C B ρ Θ} {Γ : Cx} {rest : Sms} {M1 : Type} {N : M1 → Cx}
theorem J.asgX {α : Type} [Rp α] {i : Nat} {e : Ex} {o : Option (α × M1)} {k : α → M1 → Option (Out M C B ρ Θ)} (he : XE W Γ e o N) (h : ∀ v m, J W p ((N m).set i (some (own v))) rest (k v m)) : J W p Γ (.cons (.asg (.nm i) e) rest) (o.bind fun q => k q.1 q.2) := fun r er env L S K hl hs ok => by
  obtain ⟨⟨v, m⟩, ev, er⟩ := bind_some' er
  exact he v m ev env L S _ _ hl hs fun d S' hl' hs' => ⟨_, rfl, h v m r er _ L S' K (by rw [List.length_set, List.length_set]; exact hl') (Rel.asg hl' hs') ok⟩
theorem J.exR {α : Type} [Rp α] {e : Ex} {o : Option α} {k : Option (Out M C B ρ Θ)} (he : RE W Γ e o) (h : J W p Γ rest k) : J W p Γ (.cons (.ex e) rest) (o.bind fun _ => k) := fun r er env L S K hl hs ok => by
  obtain ⟨v, ev, er⟩ := bind_some' er
  exact he v ev env L S _ _ hl hs fun d S' l _ => h r er env L S' K hl (hs.le l) ok
theorem J.retX {e : Ex} {o : Option (ρ × M1)} {θ : M1 → Θ} [Rp ρ] (hp : p.r = own) (he : XE W Γ e o N) (h : ∀ m, Fg (N m) (p.f (θ m))) : J W p Γ (.cons (.ret e) rest) (o.bind fun q => some (.rt q.1 (θ q.2))) := fun r er env L S K hl hs ok => by
  obtain ⟨⟨v, m⟩, ev, er⟩ := bind_some' er
  cases er
  refine he v m ev env L S _ _ hl hs fun d S' hl' hs' => ok d env S' (hl'.trans (h m).len) ?_
  rw [hp]
  exact Sep.under (fun S => (h m).rel) hs'
theorem J.iteX {t : Ex} {a b : Sms} {ot : Option (Bool × M1)} {oa ob : M1 → Option (Out M C B ρ Θ)} (ht : XE W Γ t ot N) (ha : ∀ m, J W p (N m) (a.app rest) (oa m)) (hb : ∀ m, J W p (N m) (b.app rest) (ob m)) : J W p Γ (.cons (.ite t a b) rest) (ot.bind fun q => bif q.1 then oa q.2 else ob q.2) := fun r er env L S K hl hs ok => by
  obtain ⟨⟨c, m⟩, ec, er⟩ := bind_some' er
  refine ht c m ec env L S _ _ hl hs fun d S' hl' hs' => ?_
  have e1 := sep_plE hs'
  subst e1
  refine ⟨c, rfl, ?_⟩
  cases c with
  | true =>
    rw [if_pos rfl]
    have q := ha m r er env L S' K hl' hs'.tail ok
    unfold Wo.Ss at q
    rw [app_wp] at q
    exact q
  | false =>
    rw [if_neg Bool.false_ne_true]
    have q := hb m r er env L S' K hl' hs'.tail ok
    unfold Wo.Ss at q
    rw [app_wp] at q
    exact q
/-- x.append(e), where e changes other things -/
theorem J.appX {α : Type} [Rp α] {i : Nat} {e : Ex} {x0 : List α} {s0 : List α → Cx} {xs : M1 → List α} {set : M1 → List α → Cx} {o : Option (α × M1)} {k : α → M1 → Option (Out M C B ρ Θ)} (hp0 : PL W Γ (.var i) x0 s0) (he : XE W Γ e o N) (hp : ∀ m, PL W (N m) (.var i) (xs m) (set m)) (h : ∀ v m, J W p (set m (xs m ++ [v])) rest (k v m)) :
    J W p Γ (.cons (.ex (.bmt (.var i) .append (.cons e .nil))) rest) (o.bind fun q => ask ((xs q.2).length < sizeLine) (k q.1 q.2)) := fun r er env L S K hl hs ok => by
  obtain ⟨⟨v, m⟩, ev, er⟩ := bind_some' er
  obtain ⟨lx, er⟩ := ask_some er
  obtain ⟨d, V, q1, q2, _⟩ := hp0 env L S hl hs
  obtain ⟨d', ed, ee⟩ := q1 (fun x _ => x = d) noX rfl
  subst ee
  refine ⟨d', ed, ?_⟩
  obtain ⟨h1, h2, dj, l1, l2, ⟨b, ds, e1, z⟩, t⟩ := q2
  subst e1
  have cg := l1 _ _ z.get
  refine ⟨.lst, by simp only [kdM, cg], rfl, he v m ev env L S _ _ hl hs fun d2 S2 hl2 hs2 => ?_⟩
  obtain ⟨d3, V, q1, q2, q3⟩ := hp m env (own v d2 :: L) S2 hl2 (front hs2)
  obtain ⟨d4, ed4, ee⟩ := q1 (fun x _ => x = d3) noX rfl
  subst ee
  rw [ed] at ed4
  cases ed4
  obtain ⟨h1, h2, dj, l1, l2, ⟨b, ds, e1, z⟩, t⟩ := q2
  cases e1
  have q5 : Sep ([Ls b ds, Pts ((xs m).map own) ds] ++ (V :: keep W.S0 :: own v d2 :: L)) S2 := Sep.flat ⟨h1, h2, dj, l1, l2, z, t⟩
  have q5 : Sep (Ls b ds :: Pts ((xs m).map own) ds :: own v d2 :: V :: keep W.S0 :: L) S2 := Sep.under (fun S z => Sep.under (fun S z => (Sep.under (fun S y => y.swap) z).swap) z) q5
  obtain ⟨_, _, _, _, _, pt, _⟩ := z.swap
  have lds := pt.len
  rw [List.length_map] at lds
  refine ⟨ds, q5.get, by rw [← lds]; exact lx, ?_⟩
  have q6 : Sep (Ls b (ds ++ [d2]) :: Pts ((xs m).map own) ds :: own v d2 :: V :: keep W.S0 :: L) (S2.upd b (.lst (ds ++ [d2]))) := q5.put
  have q7 : Sep ([Ls b (ds ++ [d2]), Pts ((xs m ++ [v]).map own) (ds ++ [d2])] ++ (V :: keep W.S0 :: L)) (S2.upd b (.lst (ds ++ [d2]))) := q6.under fun S z => pts_snoc z
  have q8 : Sep (own (xs m ++ [v]) (.ref b) :: V :: keep W.S0 :: L) (S2.upd b (.lst (ds ++ [d2]))) := q7.fold.imp fun k z => ⟨b, _, rfl, z⟩
  obtain ⟨b1, b2⟩ := q3 (xs m ++ [v])
  exact h v m r er env L _ K (hl2.trans b1.symm) (b2 _ _ q8) ok
/-- items of a walk, where asking changes things -/
def IX {α : Type} [Rp α] (W : Wo) (Γ : Cx) (it : Itx) (o : Option (List α × M1)) (N : M1 → Cx) : Prop := ∀ xs m, o = some (xs, m) → ∀ env L S (K : List D → (Store → Prop) → Store → Prop) X, env.length = Γ.length → Sep (Rel Γ env ++ keep W.S0 :: L) S →
  (∀ ds g S1 S', env.length = (N m).length → Le W.S0 S1 → Ats (xs.map rd) ds S1 → (∀ S2, Le S1 S2 → g S2) → Sep (Rel (N m) env ++ keep S1 :: L) S' → K ds g S') → wpI W.P (run W.P W.T W.j) (runM W.P W.T W.j) it env S K X
theorem IX.rng1 {e : Ex} {o : Option (Int × M1)} (h : XE W Γ e o N) : IX W Γ (.rng1 e) (o.bind fun q => ask (small q.1) (some (rngI 0 q.1, q.2))) N := fun xs m ex env L S K X hl hs q => by
  obtain ⟨⟨x, m1⟩, eo, ex⟩ := bind_some' ex
  obtain ⟨p, e⟩ := ask_some ex
  cases e
  refine h x _ eo env L S _ X hl hs fun d S' hl' hs' => ?_
  have e1 := sep_plE hs'
  subst e1
  exact ⟨x, rfl, p, q _ _ W.S0 S' hl' .refl (by rw [rng_enc]; exact ats_pl.mpr rfl) (fun _ _ => trivial) hs'.tail⟩
theorem IX.seq {α : Type} [Rp α] {e : Ex} {o : Option (List α × M1)} (h : XE W Γ e o N) : IX W Γ (.seq e) o N := fun xs m ex env L S K X hl hs q => by
  refine h xs m ex env L S _ X hl hs fun d S' hl' hs' => ?_
  obtain ⟨S1, l1, a, hs1⟩ := keep_new (fun h h' l z => Rp.own_up l z) hs'
  obtain ⟨p, ds, rfl, c, r⟩ := own_cell a
  exact ⟨ds, (keep_le hs1) _ _ c, q ds _ S1 S' hl' l1 r (fun S2 l2 => l2 _ _ c) hs1⟩
theorem J.forX {α M0 : Type} [Rp α] {N0 : M0 → Cx} {tg : Tg} {it : Itx} {b : Sms} {o : Option (List α × M1)} {f : M0 → α → Option (Out M0 M0 M0 ρ Θ)} {Γ2 : M0 → α → Store → Cx} {m0 : M1 → M0} {k : M0 → Option (Out M C B ρ Θ)} (hN : ∀ m m', (N0 m).length = (N0 m').length) (h0 : ∀ m, Fg (N m) (N0 (m0 m))) (hi : IX W Γ it o N)
    (ht : ∀ S1, Le W.S0 S1 → ∀ m x, AsT tg (ro S1 x) (N0 m) (Γ2 m x S1)) (hb : ∀ S1, Le W.S0 S1 → ∀ m x, J { W with S0 := S1 } ⟨N0, N0, N0, p.r, p.f⟩ (Γ2 m x S1) b (f m x)) (h : ∀ m, J W p (N0 m) rest (k m)) :
    J W p Γ (.cons (.for_ tg it b) rest) ((o.bind fun q => forO f q.1 (m0 q.2)).bind (Out.go k)) := by
  refine .seq (N := N0) (fun r er env L S K hl hs ok => ?_) h
  obtain ⟨⟨xs, m⟩, ex, er⟩ := bind_some' er
  refine hi xs m ex env L S _ _ hl hs fun ds g S1 S' hl' l1 ha hg hs' => hold ?_
  exact for_all hN hg (ht S1 l1) (hb S1 l1) K L xs ds (m0 m) r er ha env S' (hl'.trans (h0 m).len) ((h0 m).rel hs') (Po.up l1 ok)
/-- while -/
def whileO (t : M → Option Bool) (f : M → Option (Out M M M ρ Θ)) : Nat → M → Option (Out M C B ρ Θ)
  | 0, _ => none
  | n + 1, m => (t m).bind fun c => bif c then (f m).bind (fun
    | .nx m' => whileO t f n m'
    | .ct m' => whileO t f n m'
    | .bk m' => some (.nx m')
    | .rt v θ => some (.rt v θ)
    | .xx c θ => some (.xx c θ)) else some (.nx m)
theorem J.while_ {M0 : Type} {N0 : M0 → Cx} {t : Ex} {b : Sms} {ot : M0 → Option Bool} {f : M0 → Option (Out M0 M0 M0 ρ Θ)} {m0 : M0} {k : M0 → Option (Out M C B ρ Θ)} (n : Nat) (h0 : Fg Γ (N0 m0))
    (ht : ∀ m, RE W (N0 m) t (ot m)) (hb : ∀ m, J W ⟨N0, N0, N0, p.r, p.f⟩ (N0 m) b (f m)) (h : ∀ m, J W p (N0 m) rest (k m)) :
    J W p Γ (.cons (.while_ t b) rest) ((whileO ot f n m0).bind (Out.go k)) := by
  refine .seq (N := N0) (fun r er env L S K hl hs ok => hold ⟨n, ?_⟩) h
  have go : ∀ (n : Nat) (m : M0) (env : Env) (S : Store), env.length = (N0 m).length → Sep (Rel (N0 m) env ++ keep W.S0 :: L) S → whileO ot f n m = some r → whileN (fun env S Q => W.E t env S Q (K.ex env)) (fun e s k => W.Ss b e s k) K n env S := by
    intro n
    induction n with
    | zero => intro m env S _ _ e; cases e
    | succ n ih =>
      intro m env S hl hs e
      obtain ⟨c, ec, e⟩ := bind_some' (show (ot m).bind _ = some r from e)
      refine ht m c ec env L S _ _ hl hs fun d S' l z => ?_
      cases z
      refine ⟨c, rfl, ?_⟩
      cases c with
      | false =>
        rw [if_neg Bool.false_ne_true]
        cases e
        exact ok env S' hl (hs.le l)
      | true =>
        rw [if_pos rfl]
        obtain ⟨y, ey, e⟩ := bind_some' (show (f m).bind _ = some r from e)
        refine hb m y ey env L S' _ hl (hs.le l) ?_
        cases y with
        | nx m' => exact fun env' S' hl' hs' => ih m' env' S' hl' hs' e
        | ct m' => exact fun env' S' hl' hs' => ih m' env' S' hl' hs' e
        | bk m' => cases e; exact ok
        | rt v θ => cases e; exact ok
        | xx c θ => cases e; exact ok
  exact go n m0 env S (hl.trans h0.len) (h0.rel hs) er
end
/-! ### defs -/
/-- the slots of what is handed in -/
def pins : List (D → HP) → List D → Cx
  | r :: rs, d :: ds => some (fun d' h => d' = d ∧ r d' h) :: pins rs ds
  | _, _ => []
def nons (n : Nat) : Cx := List.replicate n none
theorem pins_rel {L : List HP} {n : Nat} : ∀ {rs : List (D → HP)} {ds : List D} {S : Store}, rs.length = ds.length → Sep (Rel (rs.map some) (ds.map some) ++ L) S → Sep (Rel (pins rs ds ++ nons n) (ds.map some ++ List.replicate n none) ++ L) S
  | [], [], S, _, h => by
    show Sep (Rel (nons n) (List.replicate n none) ++ L) S
    have h : Sep L S := h
    induction n with
    | zero => exact h
    | succ n ih => exact ih.true0
  | r :: rs, d :: ds, S, hl, h => by
    obtain ⟨h1, h2, dj, l1, l2, ⟨d', e, a⟩, t⟩ := h
    cases e
    exact ⟨h1, h2, dj, l1, l2, ⟨d, rfl, rfl, a⟩, pins_rel (by simpa using hl) t⟩
  | [], _ :: _, _, hl, _ => by cases hl
  | _ :: _, [], _, hl, _ => by cases hl
theorem pins_back {L : List HP} {Γ : Cx} : ∀ {rs : List (D → HP)} {ds : List D} {env : Env} {S : Store}, rs.length = ds.length → env.length = (pins rs ds ++ Γ).length → Sep (Rel (pins rs ds ++ Γ) env ++ L) S → Sep (Rel (rs.map some) (ds.map some) ++ L) S
  | [], [], env, S, _, _, h => rel_drop h
  | r :: rs, d :: ds, [], S, _, hl, h => by cases hl
  | r :: rs, d :: ds, o :: env, S, hl, he, h => by
    obtain ⟨h1, h2, dj, l1, l2, ⟨d', e, e2, a⟩, t⟩ := h
    subst e2
    exact ⟨h1, h2, dj, l1, l2, ⟨d', rfl, a⟩, pins_back (Γ := Γ) (by simpa using hl) (Nat.succ.inj he) t⟩
  | [], _ :: _, _, _, hl, _, _ => by cases hl
  | _ :: _, [], _, _, hl, _, _ => by cases hl
def Out.val {ρ Θ : Type} : Out Θ Θ Θ ρ Θ → Option (ρ × Θ)
  | .rt v θ => some (v, θ)
  | _ => none
def Out.valU {Θ : Type} : Out Θ Θ Θ Unit Θ → Option (Unit × Θ)
  | .rt v θ => some (v, θ)
  | .nx θ => some ((), θ)
  | _ => none
def Out.exc {ρ Θ : Type} : Out Θ Θ Θ ρ Θ → Option (Nat × Θ)
  | .xx c θ => some (c, θ)
  | _ => none
section
variable {P : Prg} {T : Nat → Option FD} {n f : Nat} {d : FD} {ρ Θ : Type} [Rp ρ] {As : Store → Θ → List (D → HP)} {θ : Θ}
/-- what a def has to be shown to do -/
def FnJ (P : Prg) (T : Nat → Option FD) (n : Nat) (d : FD) (As : Store → Θ → List (D → HP)) (θ : Θ) (o : Option (Out Θ Θ Θ ρ Θ)) : Prop := ∀ j, n ≤ j + 1 → ∀ S0 ds, ds.length = d.np →
  J ⟨P, T, j, S0⟩ ⟨fun θ' => pins (As S0 θ') ds ++ nons (d.ns - d.np), fun θ' => pins (As S0 θ') ds ++ nons (d.ns - d.np), fun θ' => pins (As S0 θ') ds ++ nons (d.ns - d.np), own, fun θ' => pins (As S0 θ') ds ++ nons (d.ns - d.np)⟩ (pins (As S0 θ) ds ++ nons (d.ns - d.np)) d.body o
theorem SpX.fn {o : Option (Out Θ Θ Θ ρ Θ)} (hT : T f = some d) (hn : 1 ≤ n) (hA : ∀ S0 θ', (As S0 θ').length = d.np) (h : FnJ P T n d As θ o) : SpX P T n f As θ (o.bind Out.val) := fun k hk v θ' ev S0 ds L S Q X hl hs q => by
  obtain ⟨r, er, ev⟩ := bind_some' ev
  cases r with
  | rt w θ2 =>
    cases ev
    cases k with
    | zero => omega
    | succ j =>
      rw [hA] at hl
      refine ⟨d, hT, hl, ?_⟩
      have lr : ∀ θ', (As S0 θ').length = ds.length := fun θ' => by rw [hA, hl]
      refine h j hk S0 ds hl _ er (startE d.ns ds) L S (endK Q X) ?_ ?_ ?_
      · unfold startE
        have pl : ∀ (rs : List (D → HP)) (ds : List D), rs.length = ds.length → (pins rs ds).length = ds.length := fun rs => by
          induction rs with
          | nil => intro ds h; cases ds with
            | nil => rfl
            | cons => cases h
          | cons r rs ih => intro ds h; cases ds with
            | nil => cases h
            | cons d ds => show (pins rs ds).length + 1 = _; rw [ih ds (by simpa using h)]; rfl
        rw [List.length_append, List.length_append, List.length_map, List.length_replicate, pl _ _ (lr θ), hl]
        unfold nons
        rw [List.length_replicate]
      · have z := pins_rel (n := d.ns - d.np) (lr θ) hs
        unfold startE
        rw [hl]
        exact z
      · exact fun d' env S' hl' hs' => q d' S' (hs'.under fun S z => pins_back (lr _) hl' z)
  | nx m => cases ev
  | ct m => cases ev
  | bk m => cases ev
  | xx c θ => cases ev
end
end SW
/-! J, part K: defs that change nothing, refusals, walks over dicts, more reading. -/
namespace SW
open PySem L2
open Rp (own rd)
open Pl (enc)
theorem pins_len : ∀ {rs : List (D → HP)} {ds : List D}, rs.length = ds.length → (pins rs ds).length = ds.length
  | [], [], _ => rfl
  | r :: rs, d :: ds, h => by show (pins rs ds).length + 1 = _; rw [pins_len (by simpa using h)]; rfl
  | [], _ :: _, h => by cases h
  | _ :: _, [], h => by cases h
section
variable {P : Prg} {T : Nat → Option FD} {n f : Nat} {d : FD} {Θ : Type} {As : Store → Θ → List (D → HP)} {θ : Θ}
theorem fn_go {ρ : Type} [Rp ρ] {o : Option (Out Θ Θ Θ ρ Θ)} (hA : ∀ S0 θ', (As S0 θ').length = d.np) (h : FnJ P T n d As θ o) {j : Nat} (hk : n ≤ j + 1) {S0 : Store} {ds : List D} {L : List HP} {S : Store} {Q : PQ} {X : PX} (hl : ds.length = d.np) (hs : Sep (Rel ((As S0 θ).map some) (ds.map some) ++ keep S0 :: L) S)
    {r : Out Θ Θ Θ ρ Θ} (er : o = some r) (ok : Po.ok ⟨fun θ' => pins (As S0 θ') ds ++ nons (d.ns - d.np), fun θ' => pins (As S0 θ') ds ++ nons (d.ns - d.np), fun θ' => pins (As S0 θ') ds ++ nons (d.ns - d.np), own, fun θ' => pins (As S0 θ') ds ++ nons (d.ns - d.np)⟩ S0 L (endK Q X) r) :
    wpSs P (run P T j) (runM P T j) d.body (startE d.ns ds) S (endK Q X) := by
  have lr : ∀ θ', (As S0 θ').length = ds.length := fun θ' => by rw [hA, hl]
  refine h j hk S0 ds hl _ er (startE d.ns ds) L S (endK Q X) ?_ ?_ ok
  · unfold startE
    rw [List.length_append, List.length_append, List.length_map, List.length_replicate, pins_len (lr θ), hl]
    unfold nons
    rw [List.length_replicate]
  · have z := pins_rel (n := d.ns - d.np) (lr θ) hs
    unfold startE
    rw [hl]
    exact z
theorem SpX.fnU {o : Option (Out Θ Θ Θ Unit Θ)} (hT : T f = some d) (hn : 1 ≤ n) (hA : ∀ S0 θ', (As S0 θ').length = d.np) (h : FnJ P T n d As θ o) : SpX P T n f As θ (o.bind Out.valU) := fun k hk v θ' ev S0 ds L S Q X hl hs q => by
  obtain ⟨r, er, ev⟩ := bind_some' ev
  cases k with
  | zero => omega
  | succ j =>
    rw [hA] at hl
    have lr : ∀ θ', (As S0 θ').length = ds.length := fun θ' => by rw [hA, hl]
    refine ⟨d, hT, hl, fn_go hA h hk hl hs er ?_⟩
    cases r with
    | rt w θ2 => cases ev; exact fun d' env S' hl' hs' => q d' S' (hs'.under fun S z => pins_back (lr _) hl' z)
    | nx m => cases ev; exact fun env S' hl' hs' => q .non S' (sep_pl rfl (pins_back (lr _) hl' hs'))
    | ct m => cases ev
    | bk m => cases ev
    | xx c θ => cases ev
theorem SpE.fn {ρ : Type} [Rp ρ] {o : Option (Out Θ Θ Θ ρ Θ)} (hT : T f = some d) (hn : 1 ≤ n) (hA : ∀ S0 θ', (As S0 θ').length = d.np) (h : FnJ P T n d As θ o) : SpE P T n f As θ (o.bind Out.exc) := fun k hk c θ' ev S0 ds L S Q X hl hs q => by
  obtain ⟨r, er, ev⟩ := bind_some' ev
  cases k with
  | zero => omega
  | succ j =>
    rw [hA] at hl
    have lr : ∀ θ', (As S0 θ').length = ds.length := fun θ' => by rw [hA, hl]
    refine ⟨d, hT, hl, fn_go hA h hk hl hs er ?_⟩
    cases r with
    | xx c θ2 => cases ev; exact fun env S' hl' hs' => q S' (pins_back (lr _) hl' hs')
    | nx m => cases ev
    | ct m => cases ev
    | bk m => cases ev
    | rt v θ => cases ev
/-- the slots of what is handed in to be read -/
def roC (S : Store) (rs : List (D → HP)) : Cx := rs.map fun r => some fun d _ => r d S
def FnP (P : Prg) (T : Nat → Option FD) (n : Nat) (d : FD) (rs : List (D → HP)) {ρ : Type} (rr : Store → ρ → D → HP) (o : Option (Out Unit Unit Unit ρ Unit)) : Prop := ∀ j, n ≤ j + 1 → ∀ S,
  J ⟨P, T, j, S⟩ ⟨fun _ => nons d.ns, fun _ => nons d.ns, fun _ => nons d.ns, rr S, fun _ => nons d.ns⟩ (roC S rs ++ nons (d.ns - d.np)) d.body o
theorem ro_rel {S0 : Store} {n : Nat} {L : List HP} : ∀ {rs : List (D → HP)} {ds : List D} {S : Store}, Ats rs ds S0 → Sep L S → Sep (Rel (roC S0 rs ++ nons n) (ds.map some ++ List.replicate n none) ++ L) S
  | [], [], S, _, h => by
    show Sep (Rel (nons n) (List.replicate n none) ++ L) S
    induction n with
    | zero => exact h
    | succ n ih => exact ih.true0
  | r :: rs, d :: ds, S, a, h => ⟨fun _ => none, S, fun _ => .inl rfl, (fun _ _ z => by cases z), .refl, ⟨d, rfl, a.1⟩, ro_rel a.2 h⟩
  | [], _ :: _, _, a, _ => a.elim
  | _ :: _, [], _, a, _ => a.elim
def Out.pv {ρ : Type} : Out Unit Unit Unit ρ Unit → Option ρ
  | .rt v _ => some v
  | _ => none
theorem keep_all {S : Store} : Sep [keep S] S := ⟨S, fun _ => none, fun _ => .inr rfl, .refl, (fun _ _ z => by cases z), fun _ _ e => e, trivial⟩
theorem fnp_go {ρ : Type} {rr : Store → ρ → D → HP} {rs : List (D → HP)} {o : Option (Out Unit Unit Unit ρ Unit)} (hr : rs.length = d.np) (h : FnP P T n d rs rr o) {j : Nat} (hk : n ≤ j + 1) {ds : List D} {S : Store} {Q : PQ} {X : PX} (ha : Ats rs ds S)
    {v : ρ} {u : Unit} (er : o = some (.rt v u)) (q : ∀ d' S', Sep [rr S v d', keep S] S' → Q d' S') : ds.length = d.np ∧ wpSs P (run P T j) (runM P T j) d.body (startE d.ns ds) S (endK Q X) := by
  have hl : ds.length = d.np := by rw [← ha.len, hr]
  refine ⟨hl, h j hk S _ er (startE d.ns ds) [] S (endK Q X) ?_ ?_ ?_⟩
  · unfold startE roC nons
    rw [List.length_append, List.length_append, List.length_map, List.length_map, List.length_replicate, List.length_replicate, hl, hr]
  · unfold startE
    rw [hl]
    exact ro_rel ha keep_all
  · intro d' env S' hl' hs'
    exact q d' S' (hs'.under fun S z => rel_drop z)
theorem SpV.fn {ρ : Type} [Rp ρ] {rs : List (D → HP)} {o : Option (Out Unit Unit Unit ρ Unit)} (hT : T f = some d) (hn : 1 ≤ n) (hr : rs.length = d.np) (h : FnP P T n d rs (fun _ => own) o) : SpV P T n f rs (o.bind Out.pv) := fun k hk v ev ds S Q X ha q => by
  obtain ⟨r, er, ev⟩ := bind_some' ev
  cases k with
  | zero => omega
  | succ j =>
    cases r with
    | rt w u =>
      cases ev
      obtain ⟨hl, z⟩ := fnp_go hr h hk (Q := Q) (X := X) ha er fun d' S' hs' => by
        have l := keep_le (A := [own v d']) hs'
        obtain ⟨h1, h2, dj, l1, l2, a, t⟩ := hs'
        exact q d' S' l ⟨h1, a, l1, fun x => by
          have l3 := keep_le (A := []) t
          exact (dj.symm.le l3 .refl) x⟩
      exact ⟨d, hT, hl, z⟩
    | nx m => cases ev
    | ct m => cases ev
    | bk m => cases ev
    | xx c θ => cases ev
theorem SpR.fn {ρ : Type} [Rp ρ] {rs : List (D → HP)} {o : Option (Out Unit Unit Unit ρ Unit)} (hT : T f = some d) (hn : 1 ≤ n) (hr : rs.length = d.np) (h : FnP P T n d rs (fun S => ro S) o) : SpR P T n f rs (o.bind Out.pv) := fun k hk v ev ds S Q X ha q => by
  obtain ⟨r, er, ev⟩ := bind_some' ev
  cases k with
  | zero => omega
  | succ j =>
    cases r with
    | rt w u =>
      cases ev
      obtain ⟨hl, z⟩ := fnp_go hr h hk (Q := Q) (X := X) ha er fun d' S' hs' => by
        have l := keep_le (A := [ro S v d']) hs'
        obtain ⟨h1, h2, dj, l1, l2, a, t⟩ := hs'
        exact q d' S' l (Rp.rd_up l a)
      exact ⟨d, hT, hl, z⟩
    | nx m => cases ev
    | ct m => cases ev
    | bk m => cases ev
    | xx c θ => cases ev
end
/-! ### more reading -/
section
variable {W : Wo} {Γ : Cx}
/-- d.get(k), plain things -/
theorem RE.getD {κ α : Type} [Ky κ] [DecidableEq κ] [Pl α] {a e : Ex} {oa : Option (Dct κ α)} {ok : Option κ} (ha : RE W Γ a oa) (hk : RE W Γ e ok) : RE W Γ (.bmt a .get (.cons e .nil)) (oa.bind fun x => ok.bind fun k => some (dg x k)) := fun v ev env L S Q X hl hs q => by
  obtain ⟨x, ex, ev⟩ := bind_some' ev
  obtain ⟨k, ek, ev⟩ := bind_some' ev
  cases ev
  refine ha.one ex hl hs fun da S1 l1 r1 hs1 => ?_
  obtain ⟨nd, a, ds, rfl, c, r⟩ := r1
  refine ⟨.dic, by simp only [kdM, c], rfl, hk.one ek hl hs1 fun dk S2 l2 r2 _ => ?_⟩
  have e2 := Pl.rd_iff.mp r2
  subst e2
  refine ⟨_, l2 _ _ c, Ky.key k, ?_⟩
  cases hg : dg x k with
  | none =>
    rw [(dg_get r).2 hg]
    rw [hg] at q
    exact q _ S2 (l1.trans l2) rfl
  | some w =>
    obtain ⟨d, e3, r3⟩ := (dg_get r).1 w hg
    rw [e3]
    rw [hg] at q
    have e4 := Pl.rd_iff.mp r3
    subst e4
    exact q _ S2 (l1.trans l2) (Pl.rd_iff.mpr rfl)
end
end SW
/-! J, part L: walks over dicts. -/
namespace SW
open PySem L2
open Rp (own rd)
open Pl (enc)
instance : Rp Empty := ⟨fun _ _ _ => False, fun _ _ _ => False, fun _ h => h, fun _ h => h, fun h => h⟩
theorem keep_add {A : HP} {S0 : Store} {B L : List HP} {S : Store} (h : Sep (A :: (B ++ keep S0 :: L)) S) : ∃ S1 k, Le S0 S1 ∧ A k ∧ Le k S1 ∧ Dj k S0 ∧ Sep (B ++ keep S1 :: L) S := by
  have pm : (A :: (B ++ keep S0 :: L)).Perm (A :: keep S0 :: (B ++ L)) := (List.perm_middle (a := keep S0) (l₁ := B) (l₂ := L)).cons A
  obtain ⟨h1, h2, dj, l1, l2, a, h3, h4, dj2, l3, l4, k, r⟩ := h.perm pm
  have d13 : Dj h1 h3 := dj.le .refl l3
  have d14 : Dj h1 h4 := dj.le .refl l4
  have d10 : Dj h1 S0 := d13.le .refl k
  have q : Sep (keep (mix S0 h1) :: (B ++ L)) S := by
    refine ⟨mix h3 h1, h4, mix_dj dj2 d14, mix_le (l3.trans l2) l1, l4.trans l2, fun a c e => ?_, r⟩
    unfold mix at e
    cases z : S0 a with
    | none => rw [z] at e; exact mix_r d13.symm a c e
    | some d => rw [z] at e; cases e; exact mix_l a _ (k a _ z)
  exact ⟨mix S0 h1, h1, mix_l, a, mix_r d10.symm, d10, q.perm (List.perm_middle (a := keep (mix S0 h1)) (l₁ := B) (l₂ := L)).symm⟩
theorem keep_split {A : HP} {S0 S1 k : Store} {B L : List HP} {S : Store} (l0 : Le S0 S1) (a : A k) (l1 : Le k S1) (dj : Dj k S0) (h : Sep (B ++ keep S1 :: L) S) : Sep (A :: (B ++ keep S0 :: L)) S := by
  obtain ⟨h1, h2, d, m1, m2, z, t⟩ := h.perm (List.perm_middle (a := keep S1) (l₁ := B) (l₂ := L))
  have z : Le S1 h1 := z
  have q : Sep (A :: keep S0 :: (B ++ L)) S := ⟨k, mix S0 h2, fun x => by
    have d1 : Dj k h2 := d.le (l1.trans z) .refl
    exact (mix_dj dj.symm d1.symm).symm x, (l1.trans z).trans m1, mix_le ((l0.trans z).trans m1) m2, a, S0, h2, d.le (l0.trans z) .refl, mix_l, mix_r (d.le (l0.trans z) .refl), .refl, t⟩
  exact q.perm ((List.perm_middle (a := keep S0) (l₁ := B) (l₂ := L)).symm.cons A)
/-- what is locked, as far as it reads -/
def zo (S1 : Store) (d0 : D) (zr : D → HP) : D → HP := fun d _ => d = d0 ∧ zr d S1
/-- the dict of e, in the thing v at slot i, is locked -/
def FZ {κ α : Type} [Ky κ] [Rp α] (W : Wo) (Γ : Cx) (e : Ex) (i : Nat) (zr : D → HP) (x : Dct κ α) (orig : D → HP) : Prop := ∀ env L S, env.length = Γ.length → Sep (Rel Γ env ++ keep W.S0 :: L) S →
  ∃ a ds d S1, Le W.S0 S1 ∧ S a = some (.dic (kds x ds)) ∧ S1 a = some (.fz (.dic (kds x ds))) ∧ Ats (x.l.map fun p => rd p.2) ds S1 ∧ (∀ Q X, Q (.ref a) (S.upd a (.fz (.dic (kds x ds)))) → W.E e env (S.upd a (.fz (.dic (kds x ds)))) Q X) ∧
    Sep (Rel (Γ.set i (some (zo S1 d zr))) env ++ keep S1 :: L) (S.upd a (.fz (.dic (kds x ds)))) ∧
    ∀ Γ' env' L' S', Γ'[i]? = some (some (zo S1 d zr)) → env'.length = Γ'.length → Sep (Rel Γ' env' ++ keep S1 :: L') S' → Sep (Rel (Γ'.set i (some orig)) env' ++ keep W.S0 :: L') (S'.upd a (.dic (kds x ds)))
theorem ats_val {κ α : Type} [Ky κ] [Rp α] {x : Dct κ α} {ds : List D} {h h' : Store} (l : Le h h') (p : Pts (x.l.map fun p => own p.2) ds h) : Ats (x.l.map fun p => rd p.2) ds h' := by
  have e2 : (x.l.map fun p => rd p.2) = (x.l.map (·.2)).map rd := by rw [List.map_map]; rfl
  have e3 : (x.l.map fun p => own p.2) = (x.l.map (·.2)).map own := by rw [List.map_map]; rfl
  rw [e2]
  rw [e3] at p
  exact ats_rd_up l (ats_own p)
/-- both forms at once: own v at slot i holds a dict x with the rest V -/
theorem FZ.gen {κ α β : Type} [Ky κ] [Rp α] [Rp β] {W : Wo} {Γ : Cx} {e : Ex} {i : Nat} {v : β} {zr : D → HP} {x : Dct κ α} {orig : D → HP} (zup : ∀ d h h', Le h h' → zr d h → zr d h') (ei : Γ[i]? = some (some orig)) (or1 : ∀ d h, orig d h → own v d h) (or2 : ∀ d h h', orig d h → own v d h' → orig d h')
    (H : ∀ d h, own v d h → ∃ d' V, Sep [own x d', V] h ∧ (∀ h', Sep [own x d', V] h' → own v d h') ∧ (∀ a ds h', d' = .ref a → x.keys.Nodup → Sep (Cl a (.fz (.dic (kds x ds))) :: [Pts (x.l.map fun p => own p.2) ds, V]) h' → zr d h') ∧ ∀ (a : Addr) (env : Env) (S : Store), d' = .ref a → S a = h a → env[i]? = some (some d) → (∀ b c, h b = some c → b ≠ a → S b = some c) → (∀ kvs, h a = some (.dic kvs) → ∀ Q X, Q (.ref a) (S.upd a (.fz (.dic kvs))) → W.E e env (S.upd a (.fz (.dic kvs))) Q X)) : FZ W Γ e i zr x orig := fun env L S hl hs => by
  obtain ⟨d, ed, z⟩ := Rel.take ei hl hs
  obtain ⟨h1, h2, dj, l1, l2, o1, t⟩ := z
  have ow := or1 d h1 o1
  obtain ⟨d', V, s1, bk, zz, ev⟩ := H d h1 ow
  obtain ⟨k1, k2, kd, m1, m2, ⟨nd, a, ds, e1, z⟩, vt⟩ := s1
  subst e1
  have ca : h1 a = some (.dic (kds x ds)) := m1 _ _ z.get
  have na : h2 a = none := by
    rcases dj a with q | q
    · rw [q] at ca; cases ca
    · exact q
  have sz : Sep (Sep [Dc a (kds x ds), Pts (x.l.map fun p => own p.2) ds] :: [V]) h1 := ⟨k1, k2, kd, m1, m2, z, vt⟩
  have sz : Sep (Dc a (kds x ds) :: [Pts (x.l.map fun p => own p.2) ds, V]) h1 := sz.flat
  have sa : Sep (Cl a (.fz (.dic (kds x ds))) :: [Pts (x.l.map fun p => own p.2) ds, V]) (h1.upd a (.fz (.dic (kds x ds)))) := sz.put
  have rv : zr d (h1.upd a (.fz (.dic (kds x ds)))) := zz a ds _ rfl nd sa
  have ss : Sep ((fun h => (Sep (Cl a (.fz (.dic (kds x ds))) :: [Pts (x.l.map fun p => own p.2) ds, V]) h) ∧ zr d h) :: (Rel (Γ.set i none) env ++ keep W.S0 :: L)) (S.upd a (.fz (.dic (kds x ds)))) := by
    refine ⟨h1.upd a (.fz (.dic (kds x ds))), h2, fun b => ?_, fun b c e => ?_, fun b c e => ?_, ⟨sa, rv⟩, t⟩
    · by_cases q : b = a
      · right; rw [q]; exact na
      · rw [Store.upd_ne q]; exact dj b
    · by_cases q : b = a
      · rw [q, Store.upd_same] at e ⊢; exact e
      · rw [Store.upd_ne q] at e ⊢; exact l1 _ _ e
    · rw [Store.upd_ne (fun q => by rw [q, na] at e; cases e)]; exact l2 _ _ e
  obtain ⟨S1, k, l0, ⟨ak, rk⟩, lk, dk, hs1⟩ := keep_add ss
  have hi : i < Γ.length := (List.getElem?_eq_some_iff.mp ei).1
  refine ⟨a, ds, d, S1, l0, l1 _ _ ca, lk _ _ ak.get, ?_, ev a env S rfl (by rw [ca]; exact l1 _ _ ca) ed (fun b c e _ => l1 _ _ e) _ ca, ?_, fun Γ' env' L' S' e' hl' hs' => ?_⟩
  · obtain ⟨_, _, _, _, q2, _, k3, k4, _, q3, _, pt, _⟩ := ak
    exact ats_val ((q3.trans q2).trans lk) pt
  · have q := Rel.put (r := zo S1 d zr) (d := d) (by rw [List.length_set]; exact hi) ed (Sep.fact (p := zo S1 d zr d fun _ => none) ⟨rfl, zup d _ _ lk rk⟩ hs1)
    rw [List.set_set] at q
    exact q
  · obtain ⟨d2, ed2, t2⟩ := Rel.take e' hl' hs'
    have e3 : d2 = d := by
      obtain ⟨_, _, _, _, _, z, _⟩ := t2
      exact z.1
    subst e3
    have t3 := keep_split l0 ak lk dk t2.tail
    have t4 : Sep (Cl a (.fz (.dic (kds x ds))) :: ([Pts (x.l.map fun p => own p.2) ds, V] ++ (Rel (Γ'.set i none) env' ++ keep W.S0 :: L'))) S' := t3.flat
    have t5 : Sep (Dc a (kds x ds) :: ([Pts (x.l.map fun p => own p.2) ds, V] ++ (Rel (Γ'.set i none) env' ++ keep W.S0 :: L'))) (S'.upd a (.dic (kds x ds))) := t4.put
    have t6 : Sep ([Dc a (kds x ds), Pts (x.l.map fun p => own p.2) ds] ++ (V :: (Rel (Γ'.set i none) env' ++ keep W.S0 :: L'))) (S'.upd a (.dic (kds x ds))) := t5
    have t7 : Sep (own x (.ref a) :: V :: (Rel (Γ'.set i none) env' ++ keep W.S0 :: L')) (S'.upd a (.dic (kds x ds))) := t6.fold.imp fun k z => ⟨nd, a, ds, rfl, z⟩
    have t8 : Sep ([own x (.ref a), V] ++ (Rel (Γ'.set i none) env' ++ keep W.S0 :: L')) (S'.upd a (.dic (kds x ds))) := t7
    have t9 : Sep (orig d2 :: (Rel (Γ'.set i none) env' ++ keep W.S0 :: L')) (S'.upd a (.dic (kds x ds))) := t8.fold.imp fun k z => or2 d2 h1 k o1 (bk k z)
    have q := Rel.put (by rw [List.length_set]; exact (List.getElem?_eq_some_iff.mp e').1) ed2 t9
    rw [List.set_set] at q
    exact q
/-- a field that is a dict is locked; the others read on -/
def insZ (c f : Nat) (fs : List Nat) (ps : List Pk) : D → HP := insR c fs (setZ f fs (ps.map Pk.r) fun _ _ => True)
theorem setZ_mem {f : Nat} {y r : D → HP} : ∀ {fs : List Nat} {xs : List (D → HP)}, r ∈ setZ f fs xs y → r = y ∨ r ∈ xs := by
  intro fs
  induction fs with
  | nil => intro xs m; right; exact m
  | cons g fs ih =>
    intro xs m
    cases xs with
    | nil => exact absurd m List.not_mem_nil
    | cons x xs =>
      have m : r ∈ (if f = g then y :: xs else x :: setZ f fs xs y) := m
      split at m
      · rcases List.mem_cons.mp m with e | m
        · exact .inl e
        · exact .inr (List.mem_cons_of_mem _ m)
      · rcases List.mem_cons.mp m with e | m
        · right; rw [e]; exact List.mem_cons_self
        · rcases ih m with e | m
          · exact .inl e
          · exact .inr (List.mem_cons_of_mem _ m)
theorem setZ_up {f : Nat} {fs : List Nat} {ps : List Pk} {ds : List D} {h h' : Store} (l : Le h h') (z : Ats (setZ f fs (ps.map Pk.r) fun _ _ => True) ds h) : Ats (setZ f fs (ps.map Pk.r) fun _ _ => True) ds h' := Ats.up (fun r m d h h' l q => by
  rcases setZ_mem m with e | m
  · rw [e]; trivial
  · obtain ⟨p, _, rfl⟩ := List.mem_map.mp m
    exact p.i.rd_up l q) l z
theorem setZ_ats {f : Nat} : ∀ {fs : List Nat} {ps : List Pk} {ds : List D} {h : Store} {r : D → HP}, (List.zip fs (ps.map Pk.o)).lookup f = some r → Pts (setZ f fs (ps.map Pk.o) fun _ _ => True) ds h → Ats (setZ f fs (ps.map Pk.r) fun _ _ => True) ds h
  | [], _, _, _, _, e, _ => by cases e
  | _ :: _, [], _, _, _, e, _ => by cases e
  | g :: fs, p :: ps, ds, h, r, e, z => by
    have z : Pts (if f = g then (fun _ _ => True) :: ps.map Pk.o else p.o :: setZ f fs (ps.map Pk.o) fun _ _ => True) ds h := z
    show Ats (if f = g then (fun _ _ => True) :: ps.map Pk.r else p.r :: setZ f fs (ps.map Pk.r) fun _ _ => True) ds h
    rw [List.map_cons, List.zip_cons_cons, List.lookup_cons] at e
    cases c : f == g with
    | true =>
      rw [if_pos (eq_of_beq c)] at z ⊢
      cases ds with
      | nil => exact z.elim
      | cons d ds =>
        obtain ⟨h1, h2, _, _, l2, _, t⟩ := z
        exact ⟨trivial, Ats.up (fun r m d h h' l q => by
          obtain ⟨p, _, rfl⟩ := List.mem_map.mp m
          exact p.i.rd_up l q) l2 (ats_pk t)⟩
    | false =>
      rw [c] at e
      have ne : ¬ f = g := fun z => by rw [z, beq_self_eq_true] at c; cases c
      rw [if_neg ne] at z ⊢
      cases ds with
      | nil => exact z.elim
      | cons d ds =>
        obtain ⟨h1, h2, _, l1, l2, a, t⟩ := z
        exact ⟨p.i.rd_up l1 (p.i.own_rd a), setZ_up l2 (setZ_ats e t)⟩
theorem insZ_up {c f : Nat} {fs : List Nat} {ps : List Pk} : ∀ d h h', Le h h' → insZ c f fs ps d h → insZ c f fs ps d h' := fun d h h' l ⟨a, ds, e, x, y⟩ => ⟨a, ds, e, l _ _ x, setZ_up l y⟩
theorem FZ.fld {κ α β : Type} [Ky κ] [Rp α] {i2 : Rp β} {W : Wo} {Γ : Cx} {i f c : Nat} {fs : List Nat} {ps : β → List Pk} {v : β} {x : Dct κ α} {orig : D → HP} (hi : i2 = Rp.ins c fs ps) (ei : Γ[i]? = some (some orig)) (or1 : ∀ d h, orig d h → i2.own v d h) (or2 : ∀ d h h', orig d h → i2.own v d h' → orig d h')
    (h : (List.zip fs ((ps v).map Pk.o)).lookup f = some (own x)) (hs : setZ f fs ((ps v).map Pk.o) (own x) = (ps v).map Pk.o) : FZ W Γ (.fld (.var i) f) i (insZ c f fs (ps v)) x orig := by
  subst hi
  refine @FZ.gen κ α β _ _ (Rp.ins c fs ps) W Γ _ i v _ x orig insZ_up ei or1 or2 fun d h' ow => ?_
  obtain ⟨p, ds, e1, z⟩ := ow
  have cg := z.get
  obtain ⟨k1, k2, dj, l1, l2, pt, t⟩ := z.swap
  obtain ⟨d', V, e2, e3, e4⟩ := lk_pts h pt
  refine ⟨d', Sep [V, Cl p (.ins c (List.zip fs ds))], ?_, fun h2 z => ⟨p, ds, e1, ?_⟩, fun a es h2 e5 nd z => ?_, fun a env S ea sa ed so kvs ck Q X q => ?_⟩
  · have s : Sep (Sep [own x d', V] :: [Cl p (.ins c (List.zip fs ds))]) h' := ⟨k1, k2, dj, l1, l2, e3, t⟩
    have s : Sep (own x d' :: ([V, Cl p (.ins c (List.zip fs ds))] ++ [])) h' := s.flat
    exact s.fold1
  · have s : Sep (own x d' :: ([V, Cl p (.ins c (List.zip fs ds))] ++ [])) h2 := z.flat1
    have s : Sep ([own x d', V] ++ [Cl p (.ins c (List.zip fs ds))]) h2 := s
    have s := s.fold.imp fun k z => e4 _ k z
    rw [hs] at s
    exact s.swap
  · have z : Sep (Cl a (.fz (.dic (kds x es))) :: Pts (x.l.map fun p => own p.2) es :: Sep [V, Cl p (.ins c (List.zip fs ds))] :: []) h2 := z
    have z : Sep (Sep [V, Cl p (.ins c (List.zip fs ds))] :: []) h2 := z.tail.tail
    have z : Sep (V :: [Cl p (.ins c (List.zip fs ds))]) h2 := z.flat
    have cg := z.swap.get
    have z : Sep ((fun _ => True) :: V :: [Cl p (.ins c (List.zip fs ds))]) h2 := z.true0
    have z : Sep ([(fun _ => True), V] ++ [Cl p (.ins c (List.zip fs ds))]) h2 := z
    have z := z.fold.imp fun k z => e4 (fun _ _ => True) k z
    obtain ⟨k1, k2, _, m1, _, pt, _⟩ := z
    exact ⟨p, ds, e1, cg, setZ_ats h (pt.up m1)⟩
  · subst e1
    have ne : p ≠ a := fun z => by rw [z, ck] at cg; cases cg
    exact ⟨_, ed, p, c, _, d', rfl, by rw [Store.upd_ne ne]; exact so _ _ cg ne, e2, by rw [ea]; exact q⟩
/-- a dict that is locked -/
def dicZ {κ α : Type} [Ky κ] [Rp α] (x : Dct κ α) : D → HP := fun d h => x.keys.Nodup ∧ ∃ a ds, d = .ref a ∧ h a = some (.fz (.dic (kds x ds))) ∧ Ats (x.l.map fun p => rd p.2) ds h
theorem FZ.var {κ α : Type} [Ky κ] [Rp α] {W : Wo} {Γ : Cx} {i : Nat} {x : Dct κ α} {orig : D → HP} (ei : Γ[i]? = some (some orig)) (or1 : ∀ d h, orig d h → own x d h) (or2 : ∀ d h h', orig d h → own x d h' → orig d h') : FZ W Γ (.var i) i (dicZ x) x orig := by
  refine .gen (v := x) (fun d h h' l ⟨nd, a, ds, e1, e2, r⟩ => ⟨nd, a, ds, e1, l _ _ e2, ?_⟩) ei or1 or2 fun d h ow => ⟨d, fun _ => True, ?_, ?_, fun a ds h' e1 nd z => ⟨nd, a, ds, e1, z.get, ?_⟩, fun a env S ea sa ed so kvs ck Q X q => ⟨_, ed, by rw [ea]; exact q⟩⟩
  · have e2 : (x.l.map fun p => rd p.2) = (x.l.map (·.2)).map rd := by rw [List.map_map]; rfl
    rw [e2] at r ⊢
    exact ats_rd_up l r
  · exact ⟨h, fun _ => none, fun _ => .inr rfl, .refl, (fun _ _ z => by cases z), ow, fun _ => none, fun _ => none, fun _ => .inl rfl, .refl, .refl, trivial, trivial⟩
  · rintro h' ⟨h1, h2, _, l1, _, z, _⟩
    exact Rp.own_up l1 z
  · obtain ⟨_, _, _, _, l2, _, h3, h4, _, l3, _, pt, _⟩ := z
    exact ats_val (l3.trans l2) pt
section
variable {M C B ρ Θ : Type} {W : Wo} {p : Po M C B ρ Θ} {Γ : Cx} {rest : Sms} {M0 : Type} {N : M0 → Cx} {κ α : Type} [Ky κ] [Rp α]
end
section
variable {M C B ρ Θ : Type} {W : Wo} {p : Po M C B ρ Θ} {Γ : Cx} {rest : Sms} {M0 : Type} {N : M0 → Cx} {κ α : Type} [Ky κ]
end
end SW
/-! J, part N: rules as the printer uses them. -/
namespace SW
open PySem L2
open Rp (own rd)
open Pl (enc)
section
variable {W : Wo} {Γ : Cx}
theorem AsT.pl {α : Type} [Pl α] {tg : Tg} {S1 : Store} {x : α} {Γ' : Cx} (h : AsT tg (own x) Γ Γ') : AsT tg (ro S1 x) Γ Γ' := fun d env L S hl hs => h d env L S hl (hs.imp fun k z => Pl.own_iff.mpr (Pl.rd_iff.mp z))
theorem AsT.t4 {α β γ δ : Type} [Pl α] [Pl β] [Pl γ] [Pl δ] {x : T4 α β γ δ} {s t u w : Tg} {Γ1 Γ2 Γ3 Γ4 : Cx} (h1 : AsT s (own x.a) Γ Γ1) (h2 : AsT t (own x.b) Γ1 Γ2) (h3 : AsT u (own x.c) Γ2 Γ3) (h4 : AsT w (own x.d) Γ3 Γ4) : AsT (.tup (.cons s (.cons t (.cons u (.cons w .nil))))) (own x) Γ Γ4 := fun d env L S hl hs => by
  have e := sep_plE hs
  subst e
  obtain ⟨env1, e1, l1, s1⟩ := h1 (enc x.a) env L S hl (sep_pl rfl hs.tail)
  obtain ⟨env2, e2, l2, s2⟩ := h2 (enc x.b) env1 L S l1 (sep_pl rfl s1)
  obtain ⟨env3, e3, l3, s3⟩ := h3 (enc x.c) env2 L S l2 (sep_pl rfl s2)
  obtain ⟨env4, e4, l4, s4⟩ := h4 (enc x.d) env3 L S l3 (sep_pl rfl s3)
  refine ⟨env4, ?_, l4, s4⟩
  show asgTs (.cons s (.cons t (.cons u (.cons w .nil)))) [enc x.a, enc x.b, enc x.c, enc x.d] env = _
  simp only [asgTs, e1, e2, e3, e4]
/-- a tuple of read things -/
theorem RE.tupP {τ α : Type} [Pl α] {es : Exs} {o : Option τ} {rs : τ → List (D → HP)} (mk : τ → α) (H : ∀ v ds S, Ats (rs v) ds S → ds.length ≤ 1000 ∧ enc (mk v) = .tup ds) (h : RAs W Γ es o rs) : RE W Γ (.tup es) (o.bind fun v => some (mk v)) := fun v ev env L S Q X hl hs q => by
  obtain ⟨x, ex, ev⟩ := bind_some' ev
  cases ev
  refine h x ex env L S _ X hl hs fun ds S' l a _ => ?_
  obtain ⟨h1, h2⟩ := H x ds S' a
  exact ⟨sz h1, q _ S' l (Pl.rd_iff.mpr h2.symm)⟩
theorem ats2 {α β : Type} [Pl α] [Pl β] {x : α} {y : β} {ds : List D} {S : Store} (a : Ats [rd x, rd y] ds S) : ds = [enc x, enc y] := by
  match ds, a with
  | [d, e], a => rw [Pl.rd_iff.mp a.1, Pl.rd_iff.mp a.2.1]
theorem ats3 {α β γ : Type} [Pl α] [Pl β] [Pl γ] {x : α} {y : β} {z : γ} {ds : List D} {S : Store} (a : Ats [rd x, rd y, rd z] ds S) : ds = [enc x, enc y, enc z] := by
  match ds, a with
  | [d, e, f], a => rw [Pl.rd_iff.mp a.1, Pl.rd_iff.mp a.2.1, Pl.rd_iff.mp a.2.2.1]
theorem RE.tp2 {α β : Type} [Pl α] [Pl β] {es : Exs} {o : Option (α × β × Unit)} (h : RAs W Γ es o fun p => [rd p.1, rd p.2.1]) : RE W Γ (.tup es) (o.bind fun v => some (⟨v.1, v.2.1⟩ : T2 α β)) := .tupP (fun v => (⟨v.1, v.2.1⟩ : T2 α β)) (fun v ds S a => by rw [ats2 a]; exact ⟨Nat.le_of_ble_eq_true rfl, rfl⟩) h
theorem RE.tp3 {α β γ : Type} [Pl α] [Pl β] [Pl γ] {es : Exs} {o : Option (α × β × γ × Unit)} (h : RAs W Γ es o fun p => [rd p.1, rd p.2.1, rd p.2.2.1]) : RE W Γ (.tup es) (o.bind fun v => some (⟨v.1, v.2.1, v.2.2.1⟩ : T3 α β γ)) := .tupP (fun v => (⟨v.1, v.2.1, v.2.2.1⟩ : T3 α β γ)) (fun v ds S a => by rw [ats3 a]; exact ⟨Nat.le_of_ble_eq_true rfl, rfl⟩) h
end
section
variable {M C B ρ Θ : Type} {W : Wo} {p : Po M C B ρ Θ} {Γ : Cx} {rest : Sms} {M1 : Type} {N : M1 → Cx}
theorem J.forU {α M0 : Type} [Rp α] (es : M0 → List (Nat × Option (D → HP))) (m0 : M0) {tg : Tg} {it : Itx} {b : Sms} {o : Option (List α)} {f : M0 → α → Option (Out M0 M0 M0 ρ Θ)} {Γ2 : M0 → α → Store → Cx} {k : M0 → Option (Out M C B ρ Θ)} (h0 : FgU Γ (es m0)) (hi : IT W Γ it o)
    (ht : ∀ S1, Le W.S0 S1 → ∀ m x, AsT tg (ro S1 x) (updC Γ (es m)) (Γ2 m x S1)) (hb : ∀ S1, Le W.S0 S1 → ∀ m x, J { W with S0 := S1 } ⟨fun m => updC Γ (es m), fun m => updC Γ (es m), fun m => updC Γ (es m), p.r, p.f⟩ (Γ2 m x S1) b (f m x)) (h : ∀ m, J W p (updC Γ (es m)) rest (k m)) :
    J W p Γ (.cons (.for_ tg it b) rest) ((o.bind fun xs => forO f xs m0).bind (Out.go k)) := .for_ (N := fun m => updC Γ (es m)) (fun _ _ => by rw [updC_len, updC_len]) h0.fg hi ht hb h
theorem J.whileU {M0 : Type} (n : Nat) (es : M0 → List (Nat × Option (D → HP))) (m0 : M0) {t : Ex} {b : Sms} {ot : M0 → Option Bool} {f : M0 → Option (Out M0 M0 M0 ρ Θ)} {k : M0 → Option (Out M C B ρ Θ)} (h0 : FgU Γ (es m0))
    (ht : ∀ m, RE W (updC Γ (es m)) t (ot m)) (hb : ∀ m, J W ⟨fun m => updC Γ (es m), fun m => updC Γ (es m), fun m => updC Γ (es m), p.r, p.f⟩ (updC Γ (es m)) b (f m)) (h : ∀ m, J W p (updC Γ (es m)) rest (k m)) :
    J W p Γ (.cons (.while_ t b) rest) ((whileO ot f n m0).bind (Out.go k)) := .while_ (N0 := fun m => updC Γ (es m)) n h0.fg ht hb h
theorem J.forXU {α M0 : Type} [Rp α] (es : M1 → M0 → List (Nat × Option (D → HP))) (m0 : M1 → M0) {tg : Tg} {it : Itx} {b : Sms} {o : Option (List α × M1)} {f : M1 → M0 → α → Option (Out M0 M0 M0 ρ Θ)} {Γ2 : M1 → M0 → α → Store → Cx} {k : M1 → M0 → Option (Out M C B ρ Θ)} (h0 : ∀ m, FgU (N m) (es m (m0 m))) (hi : IX W Γ it o N)
    (ht : ∀ m1 S1, Le W.S0 S1 → ∀ m x, AsT tg (ro S1 x) (updC (N m1) (es m1 m)) (Γ2 m1 m x S1)) (hb : ∀ m1 S1, Le W.S0 S1 → ∀ m x, J { W with S0 := S1 } ⟨fun m => updC (N m1) (es m1 m), fun m => updC (N m1) (es m1 m), fun m => updC (N m1) (es m1 m), p.r, p.f⟩ (Γ2 m1 m x S1) b (f m1 m x)) (h : ∀ m1 m, J W p (updC (N m1) (es m1 m)) rest (k m1 m)) :
    J W p Γ (.cons (.for_ tg it b) rest) (o.bind fun q => (forO (f q.2) q.1 (m0 q.2)).bind (Out.go (k q.2))) := fun r er env L S K hl hs ok => by
  obtain ⟨⟨xs, m1⟩, ex, er⟩ := bind_some' er
  have hi' : IX W Γ it (some (xs, m1)) N := fun xs' m' e' => by
    cases e'
    exact hi xs m1 ex
  have q := J.forX (W := W) (p := p) (N := fun (_ : Unit) => N m1) (N0 := fun m => updC (N m1) (es m1 m)) (m0 := fun _ => m0 m1) (o := some (xs, ())) (f := f m1) (k := k m1) (rest := rest) (b := b) (tg := tg) (it := it) (Γ := Γ) (fun _ _ => by rw [updC_len, updC_len]) (fun _ => (h0 m1).fg) (fun xs' m' e' => by
    cases e'
    exact hi xs m1 ex) (ht m1) (hb m1) (h m1)
  exact q r er env L S K hl hs ok
end
section
variable {P : Prg} {T : Nat → Option FD}
/-- a maker's things, as they are put -/
def rawO (d0 : D) (c : Nat) (fs : List Nat) (rs : List (D → HP)) : D → HP := fun d h => d = d0 ∧ insO c fs rs d h
def FnI (P : Prg) (T : Nat → Option FD) (n c : Nat) (d : FD) (rs : List (D → HP)) {ρ : Type} [Rp ρ] (o : Option (Out ρ ρ ρ Unit ρ)) : Prop := ∀ j, n ≤ j + 2 → ∀ S d0,
  J ⟨P, T, j, S⟩ ⟨fun v => some (pin d0 v) :: nons (d.ns - 1), fun v => some (pin d0 v) :: nons (d.ns - 1), fun v => some (pin d0 v) :: nons (d.ns - 1), own, fun v => some (pin d0 v) :: nons (d.ns - 1)⟩ (some (rawO d0 c [] []) :: (roC S rs ++ nons (d.ns - d.np))) d.body o
theorem SpI.fn {ρ : Type} [Rp ρ] {n c f : Nat} {d : FD} {rs : List (D → HP)} {o : Option (Out ρ ρ ρ Unit ρ)} (hi : P.init c = some f) (hT : T f = some d) (hn : 2 ≤ n) (hr : rs.length + 1 = d.np) (hs2 : d.np ≤ d.ns) (h : FnI P T n c d rs o) : SpI P T n c rs ((o.bind Out.valU).bind fun q => some q.2) := fun k hk v ev ds S Q X ha q => by
  obtain ⟨⟨u, w⟩, ew, ev⟩ := bind_some' ev
  cases ev
  obtain ⟨r, er, ew⟩ := bind_some' ew
  refine ⟨f, hi, fun p hp => ?_⟩
  match k, hk with
  | 0, hk => omega
  | 1, hk => omega
  | j + 2, hk =>
    have hl : (D.ref p :: ds).length = d.np := by rw [List.length_cons, ← ha.len, hr]
    refine ⟨d, hT, hl, ?_⟩
    have st : Sep (Rel (some (rawO (.ref p) c [] []) :: (roC S rs ++ nons (d.ns - d.np))) (startE d.ns (.ref p :: ds)) ++ keep S :: []) (S.upd p (.ins c [])) := by
      have s1 : Sep (Cl p (.ins c []) :: [keep S]) (S.upd p (.ins c [])) := (keep_all (S := S)).new hp
      have s2 : Sep (sl (some (rawO (.ref p) c [] [])) (some (.ref p)) :: [keep S]) (S.upd p (.ins c [])) := s1.imp fun k z => ⟨_, rfl, rfl, p, [], rfl, ⟨k, fun _ => none, fun _ => .inr rfl, .refl, (fun _ _ z => by cases z), z, ⟨fun _ => none, fun _ => none, fun _ => .inr rfl, .refl, .refl, trivial, trivial⟩⟩⟩
      have e : startE d.ns (.ref p :: ds) = some (.ref p) :: (ds.map some ++ List.replicate (d.ns - d.np) none) := by
        unfold startE
        rw [hl]
        rfl
      rw [e]
      exact s2.under fun S' z => ro_rel ha z
    have fin : ∀ env S', env.length = (some (pin (.ref p) w) :: nons (d.ns - 1)).length → Sep (Rel (some (pin (.ref p) w) :: nons (d.ns - 1)) env ++ [keep S]) S' → Q (.ref p) S' := fun env S' hl' hs' => by
      match env, hl', hs' with
      | o :: env, hl', hs' =>
        obtain ⟨h1, h2, dj, l1, l2, ⟨d', e1, e2, a⟩, t⟩ := hs'
        subst e2
        have t := rel_drop t
        have l := keep_le (A := []) t
        exact q _ S' (l.trans l2) ⟨h1, a, l1, fun x => (dj.symm.le l .refl) x⟩
    refine h j hk S (.ref p) r er (startE d.ns (.ref p :: ds)) [] _ _ ?_ st ?_
    · unfold startE roC nons
      rw [hl, List.length_append, List.length_map, List.length_cons, List.length_replicate, List.length_cons, List.length_append, List.length_map, List.length_replicate, ha.len]
      omega
    · cases r with
      | rt w2 θ2 => cases ew; exact fun d' env S' hl' hs' => ⟨by
        obtain ⟨_, _, _, _, _, z, _⟩ := hs'
        exact z, fin env S' hl' hs'.tail⟩
      | nx m => cases ew; exact fun env S' hl' hs' => ⟨rfl, fin env S' hl' hs'⟩
      | ct m => cases ew
      | bk m => cases ew
      | xx c θ => cases ew
end
end SW
/-! J, part O: more rules as the printer uses them. -/
namespace SW
open PySem L2
open Rp (own rd)
open Pl (enc)
theorem len0 {ds : List D} (h : ds.length = 0) : ds = [] := List.length_eq_zero_iff.mp h
theorem len1 {ds : List D} (h : ds.length = 1) : ∃ a, ds = [a] := List.length_eq_one_iff.mp h
theorem len2 {ds : List D} (h : ds.length = 2) : ∃ a b, ds = [a, b] := by
  match ds, h with
  | [a, b], _ => exact ⟨a, b, rfl⟩
theorem dj {n m j : Nat} (h : n ≤ j + 1) (k : m + 1 ≤ n) : m ≤ j := Nat.le_of_succ_le_succ (Nat.le_trans k h)
theorem dj2 {n m j : Nat} (h : n ≤ j + 2) (k : m + 2 ≤ n) : m ≤ j := Nat.le_of_succ_le_succ (Nat.le_of_succ_le_succ (Nat.le_trans k h))
theorem J.cast {M C B ρ Θ : Type} {W : Wo} {p : Po M C B ρ Θ} {Γ : Cx} {rest : Sms} {o : Option (Out M C B ρ Θ)} (es : List (Nat × Option (D → HP))) (h0 : FgU Γ es) (h : J W p (updC Γ es) rest o) : J W p Γ rest o := fun r er env L S K hl hs ok => h r er env L S K (by rw [updC_len]; exact hl) (h0.fg.rel hs) ok
section
variable {W : Wo} {Γ : Cx} {M1 : Type} {N : M1 → Cx}
/-- a thing of one's own is given away -/
theorem XE.mv {α : Type} [Rp α] {i : Nat} {v : α} (e : Γ[i]? = some (some (own v))) : XE W Γ (.var i) (some (v, ())) (fun _ => Γ.set i none) := fun w m ev env L S Q X hl hs q => by
  cases ev
  obtain ⟨d, ed, z⟩ := Rel.take e hl hs
  exact ⟨d, ed, q d S (by rw [List.length_set]; exact hl) z⟩
theorem XE.u {α : Type} [Rp α] (es : M1 → List (Nat × Option (D → HP))) (m0 : M1) {e : Ex} {o : Option (α × M1)} (h0 : FgU Γ (es m0)) (h : XE W (updC Γ (es m0)) e o (fun m => updC Γ (es m))) : XE W Γ e o (fun m => updC Γ (es m)) := fun v m ev env L S Q X hl hs q => h v m ev env L S Q X (by rw [updC_len]; exact hl) (h0.fg.rel hs) q
theorem XE.vu {α : Type} [Rp α] {e : Ex} {o : Option α} (h : VE W Γ e o) : XE W Γ e (o.bind fun v => some (v, ())) (fun _ => Γ) := h.xe
end
section
variable {M C B ρ Θ : Type} {W : Wo} {p : Po M C B ρ Θ} {Γ : Cx} {rest : Sms} {M1 : Type} {N : M1 → Cx}
end
/-! more plain reading -/
section
variable {W : Wo} {Γ : Cx}
/-- rows of whole numbers, compared -/
class Lx (α : Type) extends Pl α where
  ns : α → List Int
  el : ∀ x, enc x = .tup ((ns x).map .int)
instance : Lx (T2 Int Int) := { ns := fun x => [x.a, x.b], el := fun _ => rfl }
instance : Lx (T3 Int Int Int) := { ns := fun x => [x.a, x.b, x.c], el := fun _ => rfl }
instance : Lx (T4 Int Int Int Int) := { ns := fun x => [x.a, x.b, x.c, x.d], el := fun _ => rfl }
/-- isinstance of what is of a known kind -/
def KdS (α : Type) [Rp α] (k : Kd) : Prop := ∀ (v : α) d S, rd v d S → kdOf S d = some k
theorem RE.isi {α : Type} [Rp α] {e : Ex} {o : Option α} {k : Kd} {ts : List Ty} {b : Bool} (H : KdS α k) (hb : isTys k ts = some b) (h : RE W Γ e o) : RE W Γ (.isi e ts) (o.bind fun _ => some b) := fun v ev env L S Q X hl hs q => by
  obtain ⟨x, ex, ev⟩ := bind_some' ev
  cases ev
  exact h.one ex hl hs fun d S' l r _ => ⟨k, b, H x d S' r, hb, q _ S' l rfl⟩
theorem kd_int : KdS Int .int := fun v d S r => by cases r; rfl
theorem kd_list {α : Type} [Rp α] : KdS (List α) .lst := fun v d S r => by
  obtain ⟨a, ds, rfl, e, _⟩ := r
  exact kd_lst e
/-- equality of plain things that are data -/
theorem eqd_of {α : Type} [Pl α] (n : Nat) (hp : ∀ x : α, plD n (enc x) = true) (inj : ∀ x y : α, enc x = enc y → x = y) [DecidableEq α] {x y : α} {d1 d2 : D} {S : Store} {Q : Bool → Prop} (r1 : rd x d1 S) (r2 : rd y d2 S) (q : Q (decide (x = y))) (hn : n ≤ 60) : wpEq d1 d2 S Q := by
  have e1 := Pl.rd_iff.mp r1
  have e2 := Pl.rd_iff.mp r2
  subst e1
  subst e2
  have h1 := hp x
  have h2 := hp y
  refine w_eqp hn hn h1 h2 ?_
  have e : decide (enc x = enc y) = decide (x = y) := by
    by_cases c : x = y
    · rw [c, decide_eq_true rfl, decide_eq_true rfl]
    · rw [decide_eq_false c, decide_eq_false (fun z => c (inj x y z))]
  rw [e]
  exact q
end
class Pe (α : Type) extends Pl α where
  pd : DecidableEq α
  pn : Nat
  pl : ∀ (x : α) n, pn ≤ n → plD n (enc x) = true
  inj : ∀ x y : α, enc x = enc y → x = y
instance {α : Type} [h : Pe α] : DecidableEq α := h.pd
instance : Eqd Int where
  dec := inferInstance
  eqd r1 r2 q := eqd_of 0 (fun x => rfl) (fun x y e => by cases e; rfl) r1 r2 q (by decide)
instance : Eqd Str where
  dec := inferInstance
  eqd r1 r2 q := by cases r1; cases r2; exact q
instance : Eqd Bool where
  dec := inferInstance
  eqd {x y d1 d2 S Q} r1 r2 q := by
    cases r1
    cases r2
    show ∃ n p q, _
    exact ⟨1, _, _, rfl, rfl, rfl, rfl, by
      rw [eqv_bool]
      have e : (x == y) = decide (x = y) := by cases x <;> cases y <;> rfl
      rw [e]
      exact q⟩
instance : Pe Int where
  pd := inferInstance
  pn := 0
  pl x n _ := by cases n <;> rfl
  inj x y e := by cases e; rfl
instance : Pe Unit where
  pd := inferInstance
  pn := 0
  pl x n _ := by cases n <;> rfl
  inj x y e := rfl
class Pn (α : Type) extends Pe α where
  nn : ∀ x : α, isNon (enc x) = false
instance : Pn Int := { nn := fun _ => rfl }
theorem optE_pl {α : Type} [h : Pe α] (x : Option α) (n : Nat) (hn : h.pn ≤ n) : plD n (enc x) = true := by
  cases x with
  | none => cases n <;> rfl
  | some x => exact h.pl x n hn
instance {α β : Type} [ha : Pe α] [hb : Pe β] : Pn (T2 α β) where
  pd := by
    letI := ha.pd
    letI := hb.pd
    exact inferInstance
  pn := (max (ha.pn) hb.pn) + 1
  pl x n hn := by
    cases n with
    | zero => omega
    | succ n =>
      show plDs n [enc x.a, enc x.b] = true
      simp only [plDs, Bool.and_true, Bool.and_eq_true]
      exact ⟨ha.pl x.a n (by omega), hb.pl x.b n (by omega)⟩
  inj x y e := by
    have e : D.tup [enc x.a, enc x.b] = D.tup [enc y.a, enc y.b] := e
    simp only [D.tup.injEq, List.cons.injEq, and_true] at e
    cases x; cases y
    simp only [T2.mk.injEq]
    exact ⟨ha.inj _ _ e.1, hb.inj _ _ e.2⟩
  nn _ := rfl
instance {α β γ : Type} [ha : Pe α] [hb : Pe β] [hc : Pe γ] : Pn (T3 α β γ) where
  pd := by
    letI := ha.pd
    letI := hb.pd
    letI := hc.pd
    exact inferInstance
  pn := (max (max (ha.pn) hb.pn) hc.pn) + 1
  pl x n hn := by
    cases n with
    | zero => omega
    | succ n =>
      show plDs n [enc x.a, enc x.b, enc x.c] = true
      simp only [plDs, Bool.and_true, Bool.and_eq_true]
      exact ⟨ha.pl x.a n (by omega), hb.pl x.b n (by omega), hc.pl x.c n (by omega)⟩
  inj x y e := by
    have e : D.tup [enc x.a, enc x.b, enc x.c] = D.tup [enc y.a, enc y.b, enc y.c] := e
    simp only [D.tup.injEq, List.cons.injEq, and_true] at e
    cases x; cases y
    simp only [T3.mk.injEq]
    exact ⟨ha.inj _ _ e.1, hb.inj _ _ e.2.1, hc.inj _ _ e.2.2⟩
  nn _ := rfl
instance {α β γ δ : Type} [ha : Pe α] [hb : Pe β] [hc : Pe γ] [hd : Pe δ] : Pn (T4 α β γ δ) where
  pd := by
    letI := ha.pd
    letI := hb.pd
    letI := hc.pd
    letI := hd.pd
    exact inferInstance
  pn := (max (max (max (ha.pn) hb.pn) hc.pn) hd.pn) + 1
  pl x n hn := by
    cases n with
    | zero => omega
    | succ n =>
      show plDs n [enc x.a, enc x.b, enc x.c, enc x.d] = true
      simp only [plDs, Bool.and_true, Bool.and_eq_true]
      exact ⟨ha.pl x.a n (by omega), hb.pl x.b n (by omega), hc.pl x.c n (by omega), hd.pl x.d n (by omega)⟩
  inj x y e := by
    have e : D.tup [enc x.a, enc x.b, enc x.c, enc x.d] = D.tup [enc y.a, enc y.b, enc y.c, enc y.d] := e
    simp only [D.tup.injEq, List.cons.injEq, and_true] at e
    cases x; cases y
    simp only [T4.mk.injEq]
    exact ⟨ha.inj _ _ e.1, hb.inj _ _ e.2.1, hc.inj _ _ e.2.2.1, hd.inj _ _ e.2.2.2⟩
  nn _ := rfl
instance {α β γ δ ε : Type} [ha : Pe α] [hb : Pe β] [hc : Pe γ] [hd : Pe δ] [he : Pe ε] : Pn (T5 α β γ δ ε) where
  pd := by
    letI := ha.pd
    letI := hb.pd
    letI := hc.pd
    letI := hd.pd
    letI := he.pd
    exact inferInstance
  pn := (max (max (max (max (ha.pn) hb.pn) hc.pn) hd.pn) he.pn) + 1
  pl x n hn := by
    cases n with
    | zero => omega
    | succ n =>
      show plDs n [enc x.a, enc x.b, enc x.c, enc x.d, enc x.e] = true
      simp only [plDs, Bool.and_true, Bool.and_eq_true]
      exact ⟨ha.pl x.a n (by omega), hb.pl x.b n (by omega), hc.pl x.c n (by omega), hd.pl x.d n (by omega), he.pl x.e n (by omega)⟩
  inj x y e := by
    have e : D.tup [enc x.a, enc x.b, enc x.c, enc x.d, enc x.e] = D.tup [enc y.a, enc y.b, enc y.c, enc y.d, enc y.e] := e
    simp only [D.tup.injEq, List.cons.injEq, and_true] at e
    cases x; cases y
    simp only [T5.mk.injEq]
    exact ⟨ha.inj _ _ e.1, hb.inj _ _ e.2.1, hc.inj _ _ e.2.2.1, hd.inj _ _ e.2.2.2.1, he.inj _ _ e.2.2.2.2⟩
  nn _ := rfl
instance {α β γ δ ε ζ : Type} [ha : Pe α] [hb : Pe β] [hc : Pe γ] [hd : Pe δ] [he : Pe ε] [hf : Pe ζ] : Pn (T6 α β γ δ ε ζ) where
  pd := by
    letI := ha.pd
    letI := hb.pd
    letI := hc.pd
    letI := hd.pd
    letI := he.pd
    letI := hf.pd
    exact inferInstance
  pn := (max (max (max (max (max (ha.pn) hb.pn) hc.pn) hd.pn) he.pn) hf.pn) + 1
  pl x n hn := by
    cases n with
    | zero => omega
    | succ n =>
      show plDs n [enc x.a, enc x.b, enc x.c, enc x.d, enc x.e, enc x.f] = true
      simp only [plDs, Bool.and_true, Bool.and_eq_true]
      exact ⟨ha.pl x.a n (by omega), hb.pl x.b n (by omega), hc.pl x.c n (by omega), hd.pl x.d n (by omega), he.pl x.e n (by omega), hf.pl x.f n (by omega)⟩
  inj x y e := by
    have e : D.tup [enc x.a, enc x.b, enc x.c, enc x.d, enc x.e, enc x.f] = D.tup [enc y.a, enc y.b, enc y.c, enc y.d, enc y.e, enc y.f] := e
    simp only [D.tup.injEq, List.cons.injEq, and_true] at e
    cases x; cases y
    simp only [T6.mk.injEq]
    exact ⟨ha.inj _ _ e.1, hb.inj _ _ e.2.1, hc.inj _ _ e.2.2.1, hd.inj _ _ e.2.2.2.1, he.inj _ _ e.2.2.2.2.1, hf.inj _ _ e.2.2.2.2.2⟩
  nn _ := rfl
instance {α β γ δ ε ζ η : Type} [ha : Pe α] [hb : Pe β] [hc : Pe γ] [hd : Pe δ] [he : Pe ε] [hf : Pe ζ] [hg : Pe η] : Pn (T7 α β γ δ ε ζ η) where
  pd := by
    letI := ha.pd
    letI := hb.pd
    letI := hc.pd
    letI := hd.pd
    letI := he.pd
    letI := hf.pd
    letI := hg.pd
    exact inferInstance
  pn := (max (max (max (max (max (max (ha.pn) hb.pn) hc.pn) hd.pn) he.pn) hf.pn) hg.pn) + 1
  pl x n hn := by
    cases n with
    | zero => omega
    | succ n =>
      show plDs n [enc x.a, enc x.b, enc x.c, enc x.d, enc x.e, enc x.f, enc x.g] = true
      simp only [plDs, Bool.and_true, Bool.and_eq_true]
      exact ⟨ha.pl x.a n (by omega), hb.pl x.b n (by omega), hc.pl x.c n (by omega), hd.pl x.d n (by omega), he.pl x.e n (by omega), hf.pl x.f n (by omega), hg.pl x.g n (by omega)⟩
  inj x y e := by
    have e : D.tup [enc x.a, enc x.b, enc x.c, enc x.d, enc x.e, enc x.f, enc x.g] = D.tup [enc y.a, enc y.b, enc y.c, enc y.d, enc y.e, enc y.f, enc y.g] := e
    simp only [D.tup.injEq, List.cons.injEq, and_true] at e
    cases x; cases y
    simp only [T7.mk.injEq]
    exact ⟨ha.inj _ _ e.1, hb.inj _ _ e.2.1, hc.inj _ _ e.2.2.1, hd.inj _ _ e.2.2.2.1, he.inj _ _ e.2.2.2.2.1, hf.inj _ _ e.2.2.2.2.2.1, hg.inj _ _ e.2.2.2.2.2.2⟩
  nn _ := rfl
instance {α : Type} [h : Pn α] : Pe (Option α) where
  pd := by
    letI := h.pd
    exact inferInstance
  pn := h.pn
  pl x n hn := optE_pl x n hn
  inj x y e := by
    cases x with
    | none => cases y with
      | none => rfl
      | some y =>
        have q := h.nn y
        have e : D.non = enc y := e
        rw [← e] at q
        cases q
    | some x => cases y with
      | none =>
        have q := h.nn x
        have e : enc x = D.non := e
        rw [e] at q
        cases q
      | some y => rw [h.inj x y e]
end SW
/-! J, part Q: data of any kind, the script, places that may lack. -/
namespace SW
open PySem L2
open Rp (own rd)
open Pl (enc)
section
variable {W : Wo} {Γ : Cx}
/-! data of any plain kind -/
theorem D.rd_iff {v d : D} {S : Store} : rd v d S ↔ d = v := Iff.rfl
def toS : D → Option Str
  | .str s => some s
  | _ => none
theorem RE.toS {e : Ex} {o : Option D} (h : RE W Γ e o) : RE W Γ e (o.bind SW.toS) := .as SW.toS (fun v w d S e r => by
  have r : d = v := r
  cases v <;> cases e
  exact r) h
theorem RE.toD {α : Type} [Pl α] {e : Ex} {o : Option α} (h : RE W Γ e o) : RE W Γ e (o.bind fun v => some (enc v : D)) := .as (fun v => some (enc v : D)) (fun v w d S e r => by
  cases e
  exact Pl.rd_iff.mp r) h
/-! the script -/
structure Scr where
  l : List Int
instance : Pl Scr := .of fun x => .rl (x.l.map .int)
/-- bounds of a slice -/
def OE (W : Wo) (Γ : Cx) (e : Ox) (o : Option (Option Int)) : Prop := ∀ v, o = some v → ∀ env L S Q X, env.length = Γ.length → Sep (Rel Γ env ++ keep W.S0 :: L) S → (∀ S', Le S S' → Q v S') → wpO W.P (run W.P W.T W.j) (runM W.P W.T W.j) e env S Q X
theorem OE.no : OE W Γ .no (some none) := fun v ev env L S Q X hl hs q => by cases ev; exact q S .refl
theorem OE.some {e : Ex} {o : Option Int} (h : RE W Γ e o) : OE W Γ (.some e) (o.bind fun i => .some (.some i)) := fun v ev env L S Q X hl hs q => by
  obtain ⟨i, ei, ev⟩ := bind_some' ev
  cases ev
  exact h.one ei hl hs fun d S' l r _ => by cases r; exact ⟨i, rfl, q S' l⟩
theorem sl_three {α : Type} [Rp α] {a : Ex} {lo hi : Ox} {oa : Option α} {ol oh : Option (Option Int)} (ha : RE W Γ a oa) (hlo : OE W Γ lo ol) (hhi : OE W Γ hi oh) {x : α} {l h : Option Int} (ea : oa = some x) (el : ol = some l) (eh : oh = some h) {env : Env} {L : List HP} {S : Store} {Q : PQ} {X : PX} (hl : env.length = Γ.length) (hs : Sep (Rel Γ env ++ keep W.S0 :: L) S)
    (q : ∀ d S', Le S S' → rd x d S' → wpSl d l h S' Q) : W.E (.slc a lo hi) env S Q X :=
  ha.one ea hl hs fun d S1 l1 r1 hs1 => hlo l el env L S1 _ X hl hs1 fun S2 l2 => hhi h eh env L S2 _ X hl (hs1.le l2) fun S3 l3 => q d S3 ((l1.trans l2).trans l3) (Rp.rd_up (l2.trans l3) r1)
theorem cut_map' {α β : Type} (f : α → β) (xs : List α) (lo hi : Option Int) : cutL (xs.map f) lo hi = (cutL xs lo hi).map f := by
  unfold cutL
  rw [List.length_map, List.map_take, List.map_drop]
theorem VE.slcL {α : Type} [Pl α] {a : Ex} {lo hi : Ox} {oa : Option (List α)} {ol oh : Option (Option Int)} (ha : RE W Γ a oa) (hlo : OE W Γ lo ol) (hhi : OE W Γ hi oh) : VE W Γ (.slc a lo hi) (oa.bind fun x => ol.bind fun l => oh.bind fun h => some (cutL x l h)) := fun v ev env L S Q X hl hs q => by
  obtain ⟨x, ea, ev⟩ := bind_some' ev
  obtain ⟨l, el, ev⟩ := bind_some' ev
  obtain ⟨h, eh, ev⟩ := bind_some' ev
  cases ev
  refine sl_three ha hlo hhi ea el eh hl hs fun d S' l1 r => ?_
  obtain ⟨b, ds, rfl, c, r⟩ := r
  have e2 := ats_pl.mp r
  subst e2
  refine ⟨_, c, fun p hp => ?_⟩
  rw [cut_map']
  exact q _ _ (l1.trans (.upd hp)) ((New.lst hp).trans l1)
theorem VE.slcC {a : Ex} {lo hi : Ox} {oa : Option Scr} {ol oh : Option (Option Int)} (ha : RE W Γ a oa) (hlo : OE W Γ lo ol) (hhi : OE W Γ hi oh) : VE W Γ (.slc a lo hi) (oa.bind fun x => ol.bind fun l => oh.bind fun h => some (cutL x.l l h)) := fun v ev env L S Q X hl hs q => by
  obtain ⟨x, ea, ev⟩ := bind_some' ev
  obtain ⟨l, el, ev⟩ := bind_some' ev
  obtain ⟨h, eh, ev⟩ := bind_some' ev
  cases ev
  refine sl_three ha hlo hhi ea el eh hl hs fun d S' l1 r => ?_
  cases r
  intro p hp
  rw [cut_map']
  exact q _ _ (l1.trans (.upd hp)) ((New.lst hp).trans l1)
theorem VE.rvs {α : Type} [Pl α] {a : Ex} {oa : Option (List α)} (ha : RE W Γ a oa) : VE W Γ (.rvs a) (oa.bind fun x => some x.reverse) := fun v ev env L S Q X hl hs q => by
  obtain ⟨x, ea, ev⟩ := bind_some' ev
  cases ev
  refine ha.one ea hl hs fun d S' l1 r _ => ?_
  obtain ⟨b, ds, rfl, c, r⟩ := r
  have e2 := ats_pl.mp r
  subst e2
  refine ⟨_, seqRef_ref c, fun p hp => ?_⟩
  rw [← List.map_reverse]
  exact q _ _ (l1.trans (.upd hp)) ((New.lst hp).trans l1)
/-- lists put together -/
theorem VE.addL {α : Type} [Pl α] {a b : Ex} {oa ob : Option (List α)} (ha : RE W Γ a oa) (hb : RE W Γ b ob) : VE W Γ (.bin .add a b) (oa.bind fun x => ob.bind fun y => ask (x.length + y.length ≤ sizeLine) (some (x ++ y))) := fun v ev env L S Q X hl hs q => by
  obtain ⟨x, ea, ev⟩ := bind_some' ev
  obtain ⟨y, eb, ev⟩ := bind_some' ev
  obtain ⟨ly, ev⟩ := ask_some ev
  cases ev
  refine ha.two hb ea eb hl hs fun d1 d2 S' l r1 r2 => ?_
  obtain ⟨p1, ds1, rfl, c1, r1⟩ := r1
  obtain ⟨p2, ds2, rfl, c2, r2⟩ := r2
  have e1 := ats_pl.mp r1
  have e2 := ats_pl.mp r2
  subst e1
  subst e2
  refine ⟨_, _, c1, c2, by rw [List.length_map, List.length_map]; exact ly, fun p hp => ?_⟩
  rw [← List.map_append]
  exact q _ _ (l.trans (.upd hp)) ((New.lst hp).trans l)
/-! ### places that may lack -/
def PLO {α : Type} [Rp α] (W : Wo) (Γ : Cx) (e : Ex) (o : Option α) (set : α → Cx) : Prop := ∀ v, o = some v → PL W Γ e v set
theorem PL.o {α : Type} [Rp α] {e : Ex} {v : α} {set : α → Cx} (h : PL W Γ e v set) : PLO W Γ e (some v) set := fun w ew => by cases ew; exact h
def CEO {α : Type} [Pl α] (W : Wo) (Γ : Cx) (e : Ex) (o : Option α) : Prop := ∀ v, o = some v → CE W Γ e v
theorem CE.o {α : Type} [Pl α] {e : Ex} {v : α} (h : CE W Γ e v) : CEO W Γ e (some v) := fun w ew => by cases ew; exact h
theorem CEO.tix {α β : Type} [Pl α] [Pl β] {i : Int} {e : Ex} {o : Option α} (get : α → β) (H : ∀ v : α, ∃ ds, enc v = .tup ds ∧ atI ds i = some (enc (get v))) (h : CEO W Γ e o) : CEO W Γ (.ix e (.cst (.int i))) (o.bind fun v => some (get v)) := fun v ev => by
  obtain ⟨x, ex, ev⟩ := bind_some' ev
  cases ev
  exact (h x ex).tix get H
theorem CEO.neg {i : Int} : CEO W Γ (.neg (.cst (.int i))) (some (-i)) := fun v ev => by
  cases ev
  exact fun env L S hl hs Q X q => ⟨i, rfl, q⟩
theorem PLO.key {κ α : Type} [Ky κ] [DecidableEq κ] [Rp α] {e b : Ex} {o : Option (Dct κ α)} {set : Dct κ α → Cx} {ok : Option κ} (h : PLO W Γ e o set) (hk : CEO W Γ b ok) : PLO W Γ (.ix e b) (o.bind fun x => ok.bind fun k => dg x k) (fun w => set ((o.bind fun x => ok.bind fun k => some (dp x k w)).getD d0)) := fun v ev => by
  obtain ⟨x, ex, ev⟩ := bind_some' ev
  obtain ⟨k, ek, ev⟩ := bind_some' ev
  subst ex
  subst ek
  exact (h x rfl).key (hk k rfl) ev
theorem PLO.fld {α β : Type} [Rp α] [Rp β] {f : Nat} {e : Ex} {o : Option α} {set : α → Cx} {get : α → β} {st : α → β → α} (H : FO f get st) [Inhabited α] (h : PLO W Γ e o set) : PLO W Γ (.fld e f) (o.bind fun v => some (get v)) (fun w => set ((o.bind fun v => some (st v w)).getD default)) := fun v ev => by
  obtain ⟨x, ex, ev⟩ := bind_some' ev
  cases ev
  subst ex
  exact (h x rfl).fld H
end
end SW
/-! J, part U: d[k] += v; things that may be None, with cells of their own. -/
namespace SW
open PySem L2
open Rp (own rd)
open Pl (enc)
section
variable {M C B ρ Θ : Type} {W : Wo} {p : Po M C B ρ Θ} {Γ : Cx} {rest : Sms}
end
/-- a thing with cells of its own, or None -/
structure Op (α : Type) where
  o : Option α
instance {α : Type} [Rp α] : Rp (Op α) where
  own v d h := match v.o with
    | none => d = .non
    | some x => own x d h
  rd v d h := match v.o with
    | none => d = .non
    | some x => rd x d h
  own_up {v d h h'} l z := by
    cases e : v.o with
    | none => rw [e] at z; exact z
    | some x => rw [e] at z; exact Rp.own_up l z
  rd_up {v d h h'} l z := by
    cases e : v.o with
    | none => rw [e] at z; exact z
    | some x => rw [e] at z; exact Rp.rd_up l z
  own_rd {v d h} z := by
    cases e : v.o with
    | none => rw [e] at z; exact z
    | some x => rw [e] at z; exact Rp.own_rd z
theorem op_rd {α : Type} [Rp α] {v : Op α} {d : D} {S : Store} (z : rd v d S) : (v.o = none ∧ d = .non) ∨ ∃ x, v.o = some x ∧ rd x d S := by
  have z : (match v.o with | none => d = .non | some x => rd x d S) := z
  cases e : v.o with
  | none => rw [e] at z; exact .inl ⟨rfl, z⟩
  | some x => rw [e] at z; exact .inr ⟨x, rfl, z⟩
section
variable {W : Wo} {Γ : Cx}
theorem RE.opS {α : Type} [Rp α] {e : Ex} {o : Option (Op α)} (h : RE W Γ e o) : RE W Γ e (o.bind fun v => v.o) := .as (fun v => v.o) (fun v w d S e r => by
  rcases op_rd r with ⟨e2, _⟩ | ⟨x, e2, r⟩
  · rw [e2] at e; cases e
  · rw [e2] at e; cases e; exact r) h
theorem RE.opN {α : Type} [Rp α] (hn : ∀ (x : α) d S, rd x d S → isNon d = false) {a : Ex} {oa : Option (Op α)} (ha : RE W Γ a oa) : RE W Γ (.cmp .is a (.cst .non)) (oa.bind fun x => some x.o.isNone) := fun v ev env L S Q X hl hs q => by
  obtain ⟨x, ea, ev⟩ := bind_some' ev
  cases ev
  refine ha.one ea hl hs fun d S' l r _ => ?_
  show Q (.bl (isNon d)) S'
  rcases op_rd r with ⟨e, e2⟩ | ⟨y, e, r⟩
  · subst e2
    rw [e] at q
    exact q _ S' l rfl
  · rw [hn y d S' r]
    rw [e] at q
    exact q _ S' l rfl
theorem RE.opnN {α : Type} [Rp α] (hn : ∀ (x : α) d S, rd x d S → isNon d = false) {a : Ex} {oa : Option (Op α)} (ha : RE W Γ a oa) : RE W Γ (.cmp .isnot a (.cst .non)) (oa.bind fun x => some x.o.isSome) := fun v ev env L S Q X hl hs q => by
  obtain ⟨x, ea, ev⟩ := bind_some' ev
  cases ev
  refine ha.one ea hl hs fun d S' l r _ => ?_
  show Q (.bl (!isNon d)) S'
  rcases op_rd r with ⟨e, e2⟩ | ⟨y, e, r⟩
  · subst e2
    rw [e] at q
    exact q _ S' l rfl
  · rw [hn y d S' r]
    rw [e] at q
    exact q _ S' l rfl
end
end SW
namespace SW
open PySem L2
open Pl (enc)
open Rp (own rd)
theorem Dsm.cast {Γ Γ1 Γ2 : Cx} {ks : List Ak} {rs : List (D → HP)} (h : Dsm Γ ks rs Γ1) (e : Γ1 = Γ2) : Dsm Γ ks rs Γ2 := e ▸ h
@[irreducible] def fuelW : Nat := 1000000
theorem kd_T3 {α β γ : Type} [Pl α] [Pl β] [Pl γ] : KdS (T3 α β γ) .tup := fun v d S r => by cases r; rfl
/-! ### == of lists of plain things; abs -/
theorem map_inj' {α β : Type} {f : α → β} (hf : ∀ x y, f x = f y → x = y) : ∀ {xs ys : List α}, xs.map f = ys.map f → xs = ys
  | [], [], _ => rfl
  | [], _ :: _, h => by cases h
  | _ :: _, [], h => by cases h
  | x :: xs, y :: ys, h => by
    rw [List.map_cons, List.map_cons] at h
    injection h with h1 h2
    rw [hf x y h1, map_inj' hf h2]
theorem eqpL {α : Type} [h : Pe α] (hn : h.pn ≤ 60) {x y : List α} {d1 d2 : D} {S : Store} {Q : Bool → Prop} (r1 : rd x d1 S) (r2 : rd y d2 S) (q : Q (decide (x = y))) : wpEq d1 d2 S Q := by
  obtain ⟨a, ds, rfl, e1, r1⟩ := r1
  obtain ⟨b, es, rfl, e2, r2⟩ := r2
  have z1 := ats_pl.mp r1
  have z2 := ats_pl.mp r2
  subst z1 z2
  have e : decide (x.map enc = y.map enc) = decide (x = y) := by
    by_cases c : x = y
    · rw [decide_eq_true c, c, decide_eq_true rfl]
    · rw [decide_eq_false c, decide_eq_false fun z => c (map_inj' h.inj z)]
  have w := w_eql (Q := Q) e1 e2 hn hn (plDs_map fun z _ => h.pl z _ (Nat.le_refl _)) (plDs_map fun z _ => h.pl z _ (Nat.le_refl _)) (by rw [e]; exact q)
  exact w
theorem RE.neL {α : Type} [h : Pe α] (hn : h.pn ≤ 60) {W : Wo} {Γ : Cx} {a b : Ex} {oa ob : Option (List α)} (ha : RE W Γ a oa) (hb : RE W Γ b ob) : RE W Γ (.cmp .ne a b) (oa.bind fun x => ob.bind fun y => some (!decide (x = y))) := .cmpop (fun x y => some (!decide (x = y))) (fun x y z d1 d2 S Q e r1 r2 q => by cases e; exact eqpL (Q := fun b => Q (!b)) hn r1 r2 q) ha hb
theorem RE.abs {W : Wo} {Γ : Cx} {e : Ex} {o : Option Int} (h : RE W Γ e o) : RE W Γ (.blt .abs (.cons e .nil)) (o.bind fun x => some (if x < 0 then -x else x)) := .blt1 _ (fun x z d S Q e r q => by
  cases e
  cases r
  exact q _ S .refl rfl) h
instance {α : Type} [h : Pe α] : Pe (Tl α) where
  pd := by
    letI := h.pd
    exact inferInstance
  pn := h.pn + 1
  pl x n hn := by
    cases n with
    | zero => omega
    | succ k => exact plDs_map fun y _ => h.pl y k (by omega)
  inj x y e := by
    cases x with
    | mk xs =>
      cases y with
      | mk ys =>
        injection e with e
        exact congrArg Tl.mk (map_inj' h.inj e)
/-- the first two of a triple -/
theorem RE.sl32 {W : Wo} {Γ : Cx} {α γ : Type} [Pl α] [Pl γ] {a : Ex} {lo hi : Ox} {oa : Option (T3 α α γ)} {ol oh : Option (Option Int)} (ha : RE W Γ a oa) (hlo : OE W Γ lo ol) (hhi : OE W Γ hi oh) (e1 : ol = some none) (e2 : oh = some (some 2)) : RE W Γ (.slc a lo hi) (oa.bind fun x => some (⟨[x.a, x.b]⟩ : Tl α)) := fun v ev env L S Q X hl hs q => by
  obtain ⟨x, ea, ev⟩ := bind_some' ev
  cases ev
  refine sl_three ha hlo hhi ea e1 e2 hl hs fun d S' l1 r => ?_
  cases r
  exact q _ _ l1 rfl
/-! ### effects inside expressions, stated so that they unify -/
section
variable {W : Wo} {M : Type} {N : M → Cx} {m : M}
def XN {α : Type} [Rp α] (W : Wo) (N : M → Cx) (m : M) (e : Ex) (o : Option (α × M)) : Prop := XE W (N m) e o N
theorem XN.u {Γ : Cx} {α : Type} [Rp α] (es : M → List (Nat × Option (D → HP))) (m0 : M) {e : Ex} {o : Option (α × M)} (h0 : FgU Γ (es m0)) (h : XN W (fun m => updC Γ (es m)) m0 e o) : XE W Γ e o (fun m => updC Γ (es m)) := XE.u es m0 h0 h
theorem XN.v {α : Type} [Rp α] {e : Ex} {o : Option α} (h : VE W (N m) e o) : XN W N m e (o.bind fun v => some (v, m)) := XE.v h
theorem XN.r {α : Type} [Pl α] {e : Ex} {o : Option α} (h : RE W (N m) e o) : XN W N m e (o.bind fun v => some (v, m)) := XE.r h
theorem XN.bin {α β γ : Type} [Rp α] [Rp β] [Pl γ] {op : Bop} {a b : Ex} {oa : Option (α × M)} {ob : M → Option (β × M)} {f : α → β → Option γ} (H : BinS op f) (ha : XN W N m a oa) (hb : ∀ m1, XN W N m1 b (ob m1)) : XN W N m (.bin op a b) (oa.bind fun p => (ob p.2).bind fun q => (f p.1 q.1).bind fun z => some (z, q.2)) := XE.bin H ha hb
theorem XN.cmp {α β : Type} [Rp α] [Rp β] {op : Cop} {a b : Ex} {oa : Option (α × M)} {ob : M → Option (β × M)} {f : α → β → Option Bool} (H : CmpS op f) (ha : XN W N m a oa) (hb : ∀ m1, XN W N m1 b (ob m1)) : XN W N m (.cmp op a b) (oa.bind fun p => (ob p.2).bind fun q => (f p.1 q.1).bind fun z => some (z, q.2)) := XE.cmp H ha hb
theorem XN.ix {α β γ : Type} [Rp α] [Rp β] [Pl γ] {a b : Ex} {oa : Option (α × M)} {ob : M → Option (β × M)} {f : α → β → Option γ} (H : IxS f) (ha : XN W N m a oa) (hb : ∀ m1, XN W N m1 b (ob m1)) : XN W N m (.ix a b) (oa.bind fun p => (ob p.2).bind fun q => (f p.1 q.1).bind fun z => some (z, q.2)) := XE.ix H ha hb
theorem XN.rx {α β γ : Type} [Rp α] [Rp β] [Pl γ] {a b : Ex} {oa : Option α} {ob : Option (β × M)} {f : α → β → Option γ} (H : IxS f) (ha : KE W (N m) a oa) (hb : XN W N m b ob) : XN W N m (.ix a b) (oa.bind fun x => ob.bind fun q => (f x q.1).bind fun z => some (z, q.2)) := XE.rx H ha hb
/-- a list that stays what it is, at a slot, indexed by what is drawn -/
theorem XN.rv {α β γ : Type} [Rp α] [Rp β] [Pl γ] {i : Nat} {b : Ex} {x : α} {r : M → D → HP} {ob : Option (β × M)} {f : α → β → Option γ} (H : IxS f) (e : ∀ m1, (N m1)[i]? = some (some (r m1))) (en : ∀ m1, Ent W.S0 (r m1) x) (hb : XN W N m b ob) : XN W N m (.ix (.var i) b) (ob.bind fun q => (f x q.1).bind fun z => some (z, q.2)) := fun v m' ev env L S Q X hl hs q => by
  obtain ⟨⟨y, m2⟩, eb, ev⟩ := bind_some' ev
  obtain ⟨z, ez, ev⟩ := bind_some' ev
  cases ev
  obtain ⟨d, ed, _⟩ := Rel.take (e m) hl hs
  exact ⟨d, ed, hb y m2 eb env L S _ X hl hs fun d2 S2 hl2 hs2 => by
    have hs3 := hs2.tail
    obtain ⟨d', ed', z'⟩ := Rel.take (e m2) hl2 hs3
    rw [ed] at ed'
    cases ed'
    obtain ⟨h1, h2, _, l1, l2, a, t⟩ := z'
    exact H x y v d d2 S2 _ ez (en m2 d h1 S2 a l1 (keep_le hs3)) (one_rd hs2) (q _ S2 hl2 (sep_pl rfl hs3))⟩
theorem XN.an {a b : Ex} {oa : Option (Bool × M)} {ob : M → Option (Bool × M)} (ha : XN W N m a oa) (hb : ∀ m1, XN W N m1 b (ob m1)) : XN W N m (.an a b) (oa.bind fun p => bif p.1 then ob p.2 else some (false, p.2)) := XE.an ha hb
theorem XN.or {a b : Ex} {oa : Option (Bool × M)} {ob : M → Option (Bool × M)} (ha : XN W N m a oa) (hb : ∀ m1, XN W N m1 b (ob m1)) : XN W N m (.or a b) (oa.bind fun p => bif p.1 then some (true, p.2) else ob p.2) := XE.or ha hb
theorem XN.no {a : Ex} {oa : Option (Bool × M)} (ha : XN W N m a oa) : XN W N m (.no a) (oa.bind fun p => some (!p.1, p.2)) := XE.no ha
theorem XN.tup {τ α : Type} [Pl α] {es : Exs} {o : Option (τ × M)} {ec : τ → List D} (mk : τ → α) (H : ∀ v, enc (mk v) = .tup (ec v)) (hn : ∀ v, (ec v).length ≤ 1000) (h : XP W N m es o ec) : XN W N m (.tup es) (o.bind fun p => some (mk p.1, p.2)) := XE.tup mk H hn h
theorem XN.lst {τ α : Type} [Pl α] {es : Exs} {o : Option (τ × M)} {ec : τ → List D} (mk : τ → List α) (H : ∀ v, (mk v).map enc = ec v) (hn : ∀ v, (ec v).length ≤ 1000) (h : XP W N m es o ec) : XN W N m (.lst es) (o.bind fun p => some (mk p.1, p.2)) := XE.lst mk H hn h
theorem XPN.cons {α τ : Type} [Pl α] {e : Ex} {es : Exs} {oa : Option (α × M)} {o : M → Option (τ × M)} {ec : τ → List D} (ha : XN W N m e oa) (h : ∀ m1, XP W N m1 es (o m1) ec) : XP W N m (.cons e es) (oa.bind fun p => (o p.2).bind fun q => some ((p.1, q.1), q.2)) (fun v => enc v.1 :: ec v.2) := XP.cons ha h
theorem MAN.val {α τ : Type} [Pl α] {e : Ex} {es : Exs} {oa : Option (α × M)} {o : M → Option (τ × M)} {ks : τ → List Ak} (ha : XN W N m e oa) (h : ∀ m1, MA W N m1 es (o m1) ks) : MA W N m (.cons e es) (oa.bind fun p => (o p.2).bind fun q => some ((p.1, q.1), q.2)) (fun v => .val (own v.1) :: ks v.2) := MA.val ha h
theorem XN.call {τ Θ ρ : Type} [Rp ρ] {f n : Nat} {es : Exs} {o : Option (τ × M)} {ks : τ → List Ak} {As : τ → M → Store → Θ → List (D → HP)} {θ : τ → M → Θ} {g : τ → M → Option (ρ × Θ)} {Γr : τ → M → Cx} {up : τ → M → Θ → M} (h : MA W N m es o ks) (sp : ∀ v m1, SpX W.P W.T n f (As v m1) (θ v m1) (g v m1)) (hj : n ≤ W.j)
    (ha : ∀ v m1, Asm (N m1) (ks v) (As v m1 W.S0 (θ v m1)) (Γr v m1)) (hd : ∀ v m1 θ', Dsm (Γr v m1) (ks v) (As v m1 W.S0 θ') (N (up v m1 θ'))) :
    XN W N m (.call f es) (o.bind fun p => (g p.1 p.2).bind fun q => some (q.1, up p.1 p.2 q.2)) := XE.call h sp hj ha hd
end
section
variable {M C B ρ Θ : Type} {W : Wo} {p : Po M C B ρ Θ} {Γ : Cx} {rest : Sms} {M1 : Type} {N : M1 → Cx}
end
end SW
/-! J, part W: tuples' lengths and bounds, drawn comprehensions, refusals, except suites. -/
namespace SW
open PySem L2
open Rp (own rd)
open Pl (enc)
section
variable {W : Wo} {Γ : Cx}
theorem RE.lenK {α : Type} [Pl α] (n : Int) (H : ∀ v : α, ∃ ds, enc v = .tup ds ∧ (ds.length : Int) = n) {e : Ex} {o : Option α} (h : RE W Γ e o) : RE W Γ (.blt .len (.cons e .nil)) (o.bind fun _ => some n) := .blt1 (fun _ => some n) (fun x z d S Q e r q => by
  cases e
  have r := Pl.rd_iff.mp r
  obtain ⟨ds, e1, e2⟩ := H x
  rw [r, e1]
  exact ⟨ds, rfl, by rw [e2]; exact q _ S .refl rfl⟩) h
def minO : List Int → Option Int
  | [] => none
  | x :: xs => some (xs.foldl (fun a b => if b < a then b else a) x)
def maxO : List Int → Option Int
  | [] => none
  | x :: xs => some (xs.foldl (fun a b => if a < b then b else a) x)
theorem foldmin : ∀ (xs : List Int) (x : Int), (xs.foldl (fun a b => if b < a then b else a) x ∈ x :: xs) ∧ ∀ y ∈ x :: xs, xs.foldl (fun a b => if b < a then b else a) x ≤ y
  | [], x => ⟨List.mem_cons_self, fun y m => by
    rcases List.mem_cons.mp m with h | h
    · rw [h]; exact Int.le_refl _
    · cases h⟩
  | z :: xs, x => by
    show (xs.foldl (fun a b => if b < a then b else a) (if z < x then z else x) ∈ _) ∧ ∀ y ∈ _, xs.foldl (fun a b => if b < a then b else a) (if z < x then z else x) ≤ y
    obtain ⟨h1, h2⟩ := foldmin xs (if z < x then z else x)
    have h3 := h2 _ List.mem_cons_self
    refine ⟨?_, fun y m => ?_⟩
    · rcases List.mem_cons.mp h1 with h | h
      · rw [h]
        by_cases c : z < x
        · rw [if_pos c]; exact List.mem_cons_of_mem _ List.mem_cons_self
        · rw [if_neg c]; exact List.mem_cons_self
      · exact List.mem_cons_of_mem _ (List.mem_cons_of_mem _ h)
    · by_cases c : z < x
      · rw [if_pos c] at h2 h3 ⊢
        rcases List.mem_cons.mp m with h | h
        · omega
        · exact h2 y h
      · rw [if_neg c] at h2 h3 ⊢
        rcases List.mem_cons.mp m with h | h
        · omega
        · rcases List.mem_cons.mp h with h | h
          · omega
          · exact h2 y (List.mem_cons_of_mem _ h)
theorem foldmax : ∀ (xs : List Int) (x : Int), (xs.foldl (fun a b => if a < b then b else a) x ∈ x :: xs) ∧ ∀ y ∈ x :: xs, y ≤ xs.foldl (fun a b => if a < b then b else a) x
  | [], x => ⟨List.mem_cons_self, fun y m => by
    rcases List.mem_cons.mp m with h | h
    · rw [h]; exact Int.le_refl _
    · cases h⟩
  | z :: xs, x => by
    show (xs.foldl (fun a b => if a < b then b else a) (if x < z then z else x) ∈ _) ∧ ∀ y ∈ _, y ≤ xs.foldl (fun a b => if a < b then b else a) (if x < z then z else x)
    obtain ⟨h1, h2⟩ := foldmax xs (if x < z then z else x)
    have h3 := h2 _ List.mem_cons_self
    refine ⟨?_, fun y m => ?_⟩
    · rcases List.mem_cons.mp h1 with h | h
      · rw [h]
        by_cases c : x < z
        · rw [if_pos c]; exact List.mem_cons_of_mem _ List.mem_cons_self
        · rw [if_neg c]; exact List.mem_cons_self
      · exact List.mem_cons_of_mem _ (List.mem_cons_of_mem _ h)
    · by_cases c : x < z
      · rw [if_pos c] at h2 h3 ⊢
        rcases List.mem_cons.mp m with h | h
        · omega
        · exact h2 y h
      · rw [if_neg c] at h2 h3 ⊢
        rcases List.mem_cons.mp m with h | h
        · omega
        · rcases List.mem_cons.mp h with h | h
          · omega
          · exact h2 y (List.mem_cons_of_mem _ h)
theorem minO_is {xs : List Int} {z m : Int} (h : minO xs = some z) (hm : m ∈ xs) (hl : ∀ y ∈ xs, m ≤ y) : m = z ∧ 0 < xs.length := by
  cases xs with
  | nil => cases h
  | cons x xs =>
    have h := Option.some.inj h
    obtain ⟨a, b⟩ := foldmin xs x
    rw [h] at a b
    exact ⟨Int.le_antisymm (hl _ a) (b _ hm), Nat.succ_pos _⟩
theorem maxO_is {xs : List Int} {z m : Int} (h : maxO xs = some z) (hm : m ∈ xs) (hl : ∀ y ∈ xs, y ≤ m) : m = z ∧ 0 < xs.length := by
  cases xs with
  | nil => cases h
  | cons x xs =>
    have h := Option.some.inj h
    obtain ⟨a, b⟩ := foldmax xs x
    rw [h] at a b
    exact ⟨Int.le_antisymm (b _ hm) (hl _ a), Nat.succ_pos _⟩
theorem pos_minO {xs : List Int} {z : Int} (h : minO xs = some z) : 0 < xs.length := by
  cases xs with
  | nil => cases h
  | cons => exact Nat.succ_pos _
theorem pos_maxO {xs : List Int} {z : Int} (h : maxO xs = some z) : 0 < xs.length := by
  cases xs with
  | nil => cases h
  | cons => exact Nat.succ_pos _
theorem RE.minT {e : Ex} {o : Option (Tl Int)} (h : RE W Γ e o) : RE W Γ (.blt .min (.cons e .nil)) (o.bind fun x => minO x.l) := .blt1 (fun x => minO x.l) (fun x z d S Q e r q => by
  cases r
  exact ⟨_, x.l, rfl, ints_of _, pos_minO e, fun m hm hy => by rw [(minO_is e hm hy).1]; exact q _ S .refl rfl⟩) h
theorem RE.maxT {e : Ex} {o : Option (Tl Int)} (h : RE W Γ e o) : RE W Γ (.blt .max (.cons e .nil)) (o.bind fun x => maxO x.l) := .blt1 (fun x => maxO x.l) (fun x z d S Q e r q => by
  cases r
  exact ⟨_, x.l, rfl, ints_of _, pos_maxO e, fun m hm hy => by rw [(maxO_is e hm hy).1]; exact q _ S .refl rfl⟩) h
theorem own_lst {α : Type} [Pl α] {xs : List α} {p : Addr} {h : Store} (c : Ls p (xs.map enc) h) : own xs (.ref p) h :=
  ⟨p, _, rfl, (⟨h, fun _ => none, fun _ => .inr rfl, .refl, (fun _ _ z => by cases z), c, ⟨fun _ => none, fun _ => none, fun _ => .inl rfl, .refl, .refl, pts_pl.mpr rfl, trivial⟩⟩ : Sep [Ls p (xs.map enc), Pts (xs.map own) (xs.map enc)] h)⟩
/-! ### == of things with texts inside; of lists of truths -/
/-! ### comprehensions whose terms change things -/
def compX {α β M : Type} (f : M → α → Option (β × M)) : List α → M → Option (List β × M)
  | [], m => some ([], m)
  | x :: xs, m => (f m x).bind fun q => (compX f xs q.2).bind fun r => some (q.1 :: r.1, r.2)
theorem Rel.back {L : List HP} {g : Option (D → HP)} {o : Option D} : ∀ {Γ : Cx} {env : Env} {i : Nat} {S : Store}, Γ[i]? = some none → Sep (Rel (Γ.set i g) (env.set i o) ++ L) S → Sep (Rel Γ env ++ L) S
  | [], _, _, _, e, _ => by cases e
  | _ :: _, [], i, _, _, h => by cases i <;> exact h
  | a :: Γ, b :: env, 0, S, e, h => by
    cases e
    obtain ⟨h1, h2, dj, l1, l2, _, t⟩ := h
    exact ⟨h1, h2, dj, l1, l2, trivial, t⟩
  | a :: Γ, b :: env, i + 1, S, e, h => by
    obtain ⟨h1, h2, dj, l1, l2, q, t⟩ := h
    exact ⟨h1, h2, dj, l1, l2, q, Rel.back (i := i) e t⟩
theorem ahead {A L : List HP} {B k : HP} {S : Store} (h : Sep (A ++ k :: (B :: L)) S) : Sep (B :: (A ++ k :: L)) S := h.perm (by
  have e1 : A ++ k :: (B :: L) = (A ++ [k]) ++ (B :: L) := by rw [List.append_assoc]; rfl
  have e2 : B :: (A ++ k :: L) = B :: ((A ++ [k]) ++ L) := by rw [List.append_assoc]; rfl
  rw [e1, e2]
  exact List.perm_middle)
theorem XN.comp {M : Type} {N : M → Cx} {m : M} {α β : Type} [Rp α] [Pl β] {i : Nat} {e : Ex} {it : Itx} {o : Option (List α)} {f : M → α → Option (β × M)} (hi : IT W (N m) it o) (hn : ∀ m1, (N m1)[i]? = some none)
    (hf : ∀ S1, Le W.S0 S1 → ∀ m x, XN { W with S0 := S1 } (fun m' => (N m').set i (some (ro S1 x))) m e (f m x)) :
    XN W N m (.comp e (.nm i) it (.cst (.bl true)) [i]) (o.bind fun xs => ask (xs.length ≤ 1000000) (compX f xs m)) := fun v m' ev env L S Q X hl hs q => by
  obtain ⟨xs, eo, ev⟩ := bind_some' ev
  obtain ⟨lx, ev⟩ := ask_some ev
  refine hi xs eo env L S _ X hl hs fun ds g S1 Sa la l1 ha hg hsa => ?_
  intro p hp
  refine hold ?_
  have go : ∀ (ys : List α) (es : List D) (w acc : List β) (m1 : M) (Sx : Store), env.length = (N m1).length → Ats (ys.map rd) es S1 → compX f ys m1 = some (w, m') → acc.length + ys.length ≤ 1000000 → Sep (Ls p (acc.map enc) :: (Rel (N m1) env ++ keep S1 :: L)) Sx →
      (∀ Sz, env.length = (N m').length → Sep (Ls p ((acc ++ w).map enc) :: (Rel (N m') env ++ keep S1 :: L)) Sz → Q (.ref p) Sz) →
      compLoop g (fun d => asgT (.nm i) d (wipeE env [i])) (fun env S Q => W.E (.cst (.bl true)) env S Q noX) (fun env S Q => W.E e env S Q noX) p (Q (.ref p)) es Sx := by
    intro ys
    induction ys with
    | nil =>
      intro es w acc m1 Sx hl1 hy hw hl2 hx fin
      cases es with
      | cons => exact hy.elim
      | nil =>
        cases hw
        refine ⟨hg _ (keep_le (A := Ls p (acc.map enc) :: Rel (N _) env) hx), fin Sx hl1 ?_⟩
        rw [List.append_nil]
        exact hx
    | cons y ys ih =>
      intro es w acc m1 Sx hl1 hy hw hl2 hx fin
      cases es with
      | nil => exact hy.elim
      | cons d es =>
        obtain ⟨r1, r2⟩ := hy
        rw [List.length_cons] at hl2
        refine ⟨hg _ (keep_le (A := Ls p (acc.map enc) :: Rel (N m1) env) hx), _, rfl, ?_⟩
        refine ⟨true, rfl, ?_⟩
        rw [if_pos rfl]
        obtain ⟨⟨z, m2⟩, ez, hw⟩ := bind_some' (show (f m1 y).bind _ = some _ from hw)
        obtain ⟨⟨zs, m3⟩, ezs, hw⟩ := bind_some' hw
        cases hw
        have e1 : (wipeE env [i]).set i (some d) = env.set i (some d) := by
          show (env.set i none).set i (some d) = _
          rw [List.set_set]
        rw [e1]
        have h1 : Sep (Rel (N m1) env ++ keep S1 :: (Ls p (acc.map enc) :: L)) Sx := front hx
        have h2 : Sep (Rel ((N m1).set i (some (ro S1 y))) (env.set i (some d)) ++ keep S1 :: (Ls p (acc.map enc) :: L)) Sx := Rel.asg hl1 (h1.fact (p := ro S1 y d fun _ => none) r1)
        refine hf S1 l1 m1 y z m2 ez (env.set i (some d)) (Ls p (acc.map enc) :: L) Sx _ noX (by show _ = ((N m1).set i _).length; rw [List.length_set, List.length_set]; exact hl1) h2 fun d1 S4 hl4 hs4 => ?_
        have e4 := sep_plE hs4
        subst e4
        have hl4 : (env.set i (some d)).length = ((N m2).set i (some (ro S1 y))).length := hl4
        rw [List.length_set, List.length_set] at hl4
        have hs5 : Sep (Rel (N m2) env ++ keep S1 :: (Ls p (acc.map enc) :: L)) S4 := Rel.back (hn m2) hs4.tail
        have hs6 : Sep (Ls p (acc.map enc) :: (Rel (N m2) env ++ keep S1 :: L)) S4 := ahead hs5
        refine ⟨acc.map enc, hs6.get, by rw [List.length_map]; exact Nat.lt_of_le_of_lt (show acc.length ≤ 1000000 by omega) (by decide), ?_⟩
        have hs7 : Sep (Ls p ((acc ++ [z]).map enc) :: (Rel (N m2) env ++ keep S1 :: L)) (S4.upd p (.lst (acc.map enc ++ [enc z]))) := by
          rw [List.map_append]
          exact hs6.put
        exact ih es zs (acc ++ [z]) m2 _ hl4 r2 ezs (by rw [List.length_append]; simp only [List.length_cons, List.length_nil]; omega) hs7 fun Sz hl9 hs9 => by
          rw [List.append_assoc] at hs9
          exact fin Sz hl9 hs9
  refine go xs ds v [] m _ hl ha ev (by simpa using lx) (hsa.new hp) fun Sz hl9 hs9 => q _ Sz hl9 ?_
  have hs9 : Sep (Ls p (v.map enc) :: (Rel (N m') env ++ keep W.S0 :: L)) Sz := hs9.under fun S z => keep_up l1 z
  obtain ⟨h1, h2, dj, a, b, c, t⟩ := hs9
  exact ⟨h1, h2, dj, a, b, own_lst c, t⟩
end
theorem XN.addL {W : Wo} {M : Type} {N : M → Cx} {m : M} {α : Type} [Pl α] {a b : Ex} {oa : Option (List α × M)} {ob : M → Option (List α × M)} (ha : XN W N m a oa) (hb : ∀ m1, XN W N m1 b (ob m1)) : XN W N m (.bin .add a b) (oa.bind fun p => (ob p.2).bind fun q => ask (p.1.length + q.1.length ≤ sizeLine) (some (p.1 ++ q.1, q.2))) := fun v m' ev env L S Q X hl hs q => by
  obtain ⟨⟨x, m1⟩, ea, ev⟩ := bind_some' ev
  obtain ⟨⟨y, m2⟩, eb, ev⟩ := bind_some' ev
  obtain ⟨ls, ev⟩ := ask_some ev
  cases ev
  refine XE.two ha hb ea eb hl hs fun d1 d2 S2 hl2 hs2 => ?_
  have r1 := one_rd hs2
  have r2 := one_rd hs2.tail
  obtain ⟨a1, ds1, rfl, c1, r1⟩ := r1
  obtain ⟨a2, ds2, rfl, c2, r2⟩ := r2
  have z1 := ats_pl.mp r1
  have z2 := ats_pl.mp r2
  subst z1 z2
  refine ⟨_, _, c1, c2, by rw [List.length_map, List.length_map]; exact ls, fun p hp => q _ _ hl2 ?_⟩
  have e3 : x.map enc ++ y.map enc = (x ++ y).map enc := by rw [List.map_append]
  rw [e3]
  exact (New.lst hp).sep (.upd hp) hs2.tail.tail
section
variable {W : Wo}
end
/-! ### refusals -/
def Out.vt {ρ Θ : Type} : Out Θ Θ Θ ρ Θ → Option (Except Nat ρ × Θ)
  | .rt v θ => some (.ok v, θ)
  | .xx c θ => some (.error c, θ)
  | _ => none
def Out.vtU {Θ : Type} : Out Θ Θ Θ Unit Θ → Option (Except Nat Unit × Θ)
  | .rt v θ => some (.ok v, θ)
  | .nx θ => some (.ok (), θ)
  | .xx c θ => some (.error c, θ)
  | _ => none
def Out.pt {ρ : Type} : Out Unit Unit Unit ρ Unit → Option (Except Nat ρ)
  | .rt v _ => some (.ok v)
  | .xx c _ => some (.error c)
  | _ => none
def Out.pvU : Out Unit Unit Unit Unit Unit → Option Unit
  | .rt v _ => some v
  | .nx _ => some ()
  | _ => none
def Out.ptU : Out Unit Unit Unit Unit Unit → Option (Except Nat Unit)
  | .rt v _ => some (.ok v)
  | .nx _ => some (.ok ())
  | .xx c _ => some (.error c)
  | _ => none
def SpT {ρ Θ : Type} [Rp ρ] (P : Prg) (T : Nat → Option FD) (n f : Nat) (As : Store → Θ → List (D → HP)) (θ : Θ) (o : Option (Except Nat ρ × Θ)) : Prop :=
  ∀ k, n ≤ k → ∀ r θ', o = some (r, θ') → ∀ S0 ds L S Q X, ds.length = (As S0 θ).length → Sep (Rel ((As S0 θ).map some) (ds.map some) ++ keep S0 :: L) S →
    (∀ v d S', r = .ok v → Sep (own v d :: (Rel ((As S0 θ').map some) (ds.map some) ++ keep S0 :: L)) S' → Q d S') →
    (∀ c S', r = .error c → Sep (Rel ((As S0 θ').map some) (ds.map some) ++ keep S0 :: L) S' → X c S') → run P T k f ds S Q X
def SpW {ρ : Type} [Rp ρ] (P : Prg) (T : Nat → Option FD) (n f : Nat) (rs : List (D → HP)) (o : Option (Except Nat ρ)) : Prop :=
  ∀ k, n ≤ k → ∀ r, o = some r → ∀ ds S Q X, Ats rs ds S → (∀ v d S', r = .ok v → Le S S' → New (own v d) S S' → Q d S') → (∀ c S', r = .error c → Le S S' → X c S') → run P T k f ds S Q X
section
variable {P : Prg} {T : Nat → Option FD} {n f : Nat} {d : FD} {Θ : Type} {As : Store → Θ → List (D → HP)} {θ : Θ}
theorem SpT.fn {ρ : Type} [Rp ρ] {o : Option (Out Θ Θ Θ ρ Θ)} (hT : T f = some d) (hn : 1 ≤ n) (hA : ∀ S0 θ', (As S0 θ').length = d.np) (h : FnJ P T n d As θ o) : SpT P T n f As θ (o.bind Out.vt) := fun k hk v θ' ev S0 ds L S Q X hl hs q x => by
  obtain ⟨r, er, ev⟩ := bind_some' ev
  cases k with
  | zero => omega
  | succ j =>
    rw [hA] at hl
    have lr : ∀ θ', (As S0 θ').length = ds.length := fun θ' => by rw [hA, hl]
    refine ⟨d, hT, hl, fn_go hA h hk hl hs er ?_⟩
    cases r with
    | rt w θ2 => cases ev; exact fun d' env S' hl' hs' => q _ d' S' rfl (hs'.under fun S z => pins_back (lr _) hl' z)
    | xx c θ2 => cases ev; exact fun env S' hl' hs' => x _ S' rfl (pins_back (lr _) hl' hs')
    | nx m => cases ev
    | ct m => cases ev
    | bk m => cases ev
theorem SpT.fnU {o : Option (Out Θ Θ Θ Unit Θ)} (hT : T f = some d) (hn : 1 ≤ n) (hA : ∀ S0 θ', (As S0 θ').length = d.np) (h : FnJ P T n d As θ o) : SpT P T n f As θ (o.bind Out.vtU) := fun k hk v θ' ev S0 ds L S Q X hl hs q x => by
  obtain ⟨r, er, ev⟩ := bind_some' ev
  cases k with
  | zero => omega
  | succ j =>
    rw [hA] at hl
    have lr : ∀ θ', (As S0 θ').length = ds.length := fun θ' => by rw [hA, hl]
    refine ⟨d, hT, hl, fn_go hA h hk hl hs er ?_⟩
    cases r with
    | rt w θ2 => cases ev; exact fun d' env S' hl' hs' => q _ d' S' rfl (hs'.under fun S z => pins_back (lr _) hl' z)
    | xx c θ2 => cases ev; exact fun env S' hl' hs' => x _ S' rfl (pins_back (lr _) hl' hs')
    | nx m => cases ev; exact fun env S' hl' hs' => q _ .non S' rfl (sep_pl rfl (pins_back (lr _) hl' hs'))
    | ct m => cases ev
    | bk m => cases ev
theorem SpW.fn {ρ : Type} [Rp ρ] {rs : List (D → HP)} {o : Option (Out Unit Unit Unit ρ Unit)} (hT : T f = some d) (hn : 1 ≤ n) (hr : rs.length = d.np) (h : FnP P T n d rs (fun _ => own) o) : SpW P T n f rs (o.bind Out.pt) := fun k hk v ev ds S Q X ha q x => by
  obtain ⟨r, er, ev⟩ := bind_some' ev
  cases k with
  | zero => omega
  | succ j =>
    cases r with
    | rt w u =>
      cases ev
      obtain ⟨hl, z⟩ := fnp_go hr h hk (Q := Q) (X := X) ha er fun d' S' hs' => by
        have l := keep_le (A := [own w d']) hs'
        obtain ⟨h1, h2, dj, l1, l2, a, t⟩ := hs'
        exact q _ d' S' rfl l ⟨h1, a, l1, fun x => by
          have l3 := keep_le (A := []) t
          exact (dj.symm.le l3 .refl) x⟩
      exact ⟨d, hT, hl, z⟩
    | xx c u =>
      cases ev
      have hl : ds.length = d.np := by rw [← ha.len, hr]
      refine ⟨d, hT, hl, h j hk S _ er (startE d.ns ds) [] S (endK Q X) ?_ ?_ ?_⟩
      · unfold startE roC nons
        rw [List.length_append, List.length_append, List.length_map, List.length_map, List.length_replicate, List.length_replicate, hl, hr]
      · unfold startE
        rw [hl]
        exact ro_rel ha keep_all
      · intro env S' hl' hs'
        exact x _ S' rfl (keep_le hs')
    | nx m => cases ev
    | ct m => cases ev
    | bk m => cases ev
theorem fnp_any {rs : List (D → HP)} {o : Option (Out Unit Unit Unit Unit Unit)} (hr : rs.length = d.np) (h : FnP P T n d rs (fun _ => own) o) {j : Nat} (hk : n ≤ j + 1) {ds : List D} {S : Store} {Q : PQ} {X : PX} (ha : Ats rs ds S)
    {r : Out Unit Unit Unit Unit Unit} (er : o = some r) (q : ∀ d' S', r ≠ .xx 0 () → (∀ c u, r ≠ .xx c u) → Le S S' → New (own () d') S S' → Q d' S') (x : ∀ c u S', r = .xx c u → Le S S' → X c S') (nb : (∀ m, r ≠ .ct m) ∧ ∀ m, r ≠ .bk m) : ds.length = d.np ∧ wpSs P (run P T j) (runM P T j) d.body (startE d.ns ds) S (endK Q X) := by
  have hl : ds.length = d.np := by rw [← ha.len, hr]
  refine ⟨hl, h j hk S _ er (startE d.ns ds) [] S (endK Q X) ?_ ?_ ?_⟩
  · unfold startE roC nons
    rw [List.length_append, List.length_append, List.length_map, List.length_map, List.length_replicate, List.length_replicate, hl, hr]
  · unfold startE
    rw [hl]
    exact ro_rel ha keep_all
  · cases r with
    | rt v u =>
      intro d' env S' hl' hs'
      have hs' : Sep [own v d', keep S] S' := hs'.under fun S z => rel_drop z
      have l := keep_le (A := [own v d']) hs'
      have e := sep_plE hs'
      exact q d' S' (fun z => by cases z) (fun c u z => by cases z) l (.pl (Pl.rd_iff.mpr e))
    | nx m =>
      intro env S' hl' hs'
      exact q .non S' (fun z => by cases z) (fun c u z => by cases z) (keep_le hs') (.pl rfl)
    | ct m => exact absurd rfl (nb.1 m)
    | bk m => exact absurd rfl (nb.2 m)
    | xx c u =>
      intro env S' hl' hs'
      exact x c u S' rfl (keep_le hs')
theorem SpV.fnU {rs : List (D → HP)} {o : Option (Out Unit Unit Unit Unit Unit)} (hT : T f = some d) (hn : 1 ≤ n) (hr : rs.length = d.np) (h : FnP P T n d rs (fun _ => own) o) : SpV P T n f rs (o.bind Out.pvU) := fun k hk v ev ds S Q X ha q => by
  obtain ⟨r, er, ev⟩ := bind_some' ev
  cases k with
  | zero => omega
  | succ j =>
    obtain ⟨hl, z⟩ := fnp_any hr h hk (Q := Q) (X := X) ha er (fun d' S' _ _ l n => q d' S' l n) (fun c u S' e => by subst e; cases ev) ⟨fun m e => (by subst e; cases ev), fun m e => (by subst e; cases ev)⟩
    exact ⟨d, hT, hl, z⟩
theorem SpW.fnU {rs : List (D → HP)} {o : Option (Out Unit Unit Unit Unit Unit)} (hT : T f = some d) (hn : 1 ≤ n) (hr : rs.length = d.np) (h : FnP P T n d rs (fun _ => own) o) : SpW P T n f rs (o.bind Out.ptU) := fun k hk v ev ds S Q X ha q x => by
  obtain ⟨r, er, ev⟩ := bind_some' ev
  cases k with
  | zero => omega
  | succ j =>
    obtain ⟨hl, z⟩ := fnp_any hr h hk (Q := Q) (X := X) ha er (fun d' S' _ nx l n => by
      cases v with
      | ok u => exact q u d' S' rfl l n
      | error c => cases r with
        | xx c u => exact absurd rfl (nx c u)
        | rt v u => cases ev
        | nx m => cases ev
        | ct m => cases ev
        | bk m => cases ev) (fun c u S' e l => by subst e; cases ev; exact x c S' rfl l) ⟨fun m e => (by subst e; cases ev), fun m e => (by subst e; cases ev)⟩
    exact ⟨d, hT, hl, z⟩
end
section
variable {W : Wo} {Γ : Cx}
/-- e may refuse -/
def XT {α M : Type} [Rp α] (W : Wo) (Γ : Cx) (e : Ex) (o : Option (Except Nat α × M)) (N : M → Cx) : Prop := ∀ r m, o = some (r, m) → ∀ env L S Q X, env.length = Γ.length → Sep (Rel Γ env ++ keep W.S0 :: L) S →
  (∀ v d S', r = .ok v → env.length = (N m).length → Sep (own v d :: (Rel (N m) env ++ keep W.S0 :: L)) S' → Q d S') →
  (∀ c S', r = .error c → env.length = (N m).length → Sep (Rel (N m) env ++ keep W.S0 :: L) S' → X c S') → W.E e env S Q X
theorem XT.x {α M : Type} [Rp α] {N : M → Cx} {e : Ex} {o : Option (α × M)} (h : XE W Γ e o N) : XT W Γ e (o.bind fun q => some (.ok q.1, q.2)) N := fun r m er env L S Q X hl hs q x => by
  obtain ⟨⟨v, m2⟩, eo, er⟩ := bind_some' er
  cases er
  exact h v m2 eo env L S Q X hl hs fun d S' hl' hs' => q v d S' rfl hl' hs'
theorem XT.call {τ ρ : Type} [Rp ρ] {f n : Nat} {es : Exs} {o : Option τ} {rs : τ → List (D → HP)} {g : τ → Option (Except Nat ρ)} (h : RAs W Γ es o rs) (sp : ∀ v, SpW W.P W.T n f (rs v) (g v)) (hj : n ≤ W.j) : XT W Γ (.call f es) (o.bind fun v => (g v).bind fun r => some (r, ())) (fun _ => Γ) := fun r m er env L S Q X hl hs q x => by
  obtain ⟨y, eo, er⟩ := bind_some' er
  obtain ⟨w, ew, er⟩ := bind_some' er
  cases er
  refine h y eo env L S _ X hl hs fun ds S1 l1 a1 hm => ?_
  exact sp y W.j hj _ ew ds S1 Q X a1 (fun v d S' ev l2 n2 => q v d S' ev hl (n2.sep l2 (hs.le l1))) fun c S' ec l2 => x c S' ec hl (hs.le (l1.trans l2))
end
/-! ### except suites -/
section
variable {W : Wo} {Γ : Cx} {c' : Nat}
def QE {α : Type} [Pl α] (W : Wo) (c' : Nat) (Γ : Cx) (q : Qx) (o : Option α) : Prop := ∀ v, o = some v → ∀ env L S (Q : D → Prop), env.length = Γ.length → Sep (Rel Γ env ++ keep W.S0 :: L) S → Q (enc v) → wpQx W.P c' q env Q
theorem QE.cst {α : Type} [Pl α] (v : α) (d : D) (e : d = enc v) : QE W c' Γ (.cst d) (some v) := fun w ev env L S Q hl hs q => by cases ev; show Q d; rw [e]; exact q
theorem QE.isx {P : Prg} {T : Nat → Option FD} {j : Nat} {S0 : Store} (cs : List (Option Nat)) : QE ⟨P, T, j, S0⟩ c' Γ (.isx cs) (anyI P c' cs) := fun v ev env L S Q hl hs q => ⟨v, ev, q⟩
theorem QE.no {a : Qx} {oa : Option Bool} (ha : QE W c' Γ a oa) : QE W c' Γ (.no a) (oa.bind fun x => some (!x)) := fun v ev env L S Q hl hs q => by
  obtain ⟨x, ea, ev⟩ := bind_some' ev
  cases ev
  exact ha x ea env L S _ hl hs ⟨x, rfl, q⟩
theorem QE.int {a : Qx} {oa : Option Bool} (ha : QE W c' Γ a oa) : QE W c' Γ (.int a) (oa.bind fun x => some (bif x then 1 else 0 : Int)) := fun v ev env L S Q hl hs q => by
  obtain ⟨x, ea, ev⟩ := bind_some' ev
  cases ev
  exact ha x ea env L S _ hl hs ⟨x, rfl, by cases x <;> exact q⟩
theorem QE.an {a b : Qx} {oa ob : Option Bool} (ha : QE W c' Γ a oa) (hb : QE W c' Γ b ob) : QE W c' Γ (.an a b) (oa.bind fun x => bif x then ob else some false) := fun v ev env L S Q hl hs q => by
  obtain ⟨x, ea, ev⟩ := bind_some' ev
  refine ha x ea env L S _ hl hs ⟨x, rfl, ?_⟩
  cases x with
  | true => rw [if_pos rfl]; exact hb v ev env L S Q hl hs q
  | false => rw [if_neg Bool.false_ne_true]; cases ev; exact q
theorem QE.or {a b : Qx} {oa ob : Option Bool} (ha : QE W c' Γ a oa) (hb : QE W c' Γ b ob) : QE W c' Γ (.or a b) (oa.bind fun x => bif x then some true else ob) := fun v ev env L S Q hl hs q => by
  obtain ⟨x, ea, ev⟩ := bind_some' ev
  refine ha x ea env L S _ hl hs ⟨x, rfl, ?_⟩
  cases x with
  | false => rw [if_neg Bool.false_ne_true]; exact hb v ev env L S Q hl hs q
  | true => rw [if_pos rfl]; cases ev; exact q
def QEs {α : Type} [Pl α] (W : Wo) (c' : Nat) (Γ : Cx) (qs : List Qx) (o : Option (List α)) : Prop := ∀ v, o = some v → v.length = qs.length ∧ ∀ env L S (Q : List D → Prop), env.length = Γ.length → Sep (Rel Γ env ++ keep W.S0 :: L) S → Q (v.map enc) → wpQxs W.P c' qs env Q
theorem QEs.nil {α : Type} [Pl α] : QEs W c' Γ [] (some ([] : List α)) := fun v ev => by cases ev; exact ⟨rfl, fun env L S Q hl hs q => q⟩
theorem QEs.cons {α : Type} [Pl α] {q : Qx} {qs : List Qx} {oa : Option α} {o : Option (List α)} (ha : QE W c' Γ q oa) (h : QEs W c' Γ qs o) : QEs W c' Γ (q :: qs) (oa.bind fun x => o.bind fun xs => some (x :: xs)) := fun v ev => by
  obtain ⟨x, ea, ev⟩ := bind_some' ev
  obtain ⟨xs, eo, ev⟩ := bind_some' ev
  cases ev
  exact ⟨by rw [List.length_cons, List.length_cons, (h xs eo).1], fun env L S Q hl hs q => ha x ea env L S _ hl hs ((h xs eo).2 env L S _ hl hs q)⟩
def QL {M : Type} (W : Wo) (c' : Nat) (Γ : Cx) (q : List Qm) (o : Option M) (N : M → Cx) : Prop := ∀ m, o = some m → ∀ env L S (K : Env → Store → Prop), env.length = Γ.length → Sep (Rel Γ env ++ keep W.S0 :: L) S →
  (∀ env' S', env'.length = (N m).length → Sep (Rel (N m) env' ++ keep W.S0 :: L) S' → K env' S') → wpQ W.P c' q env S K
theorem QL.nil {M : Type} {N : M → Cx} {m : M} (h : Fg Γ (N m)) : QL W c' Γ [] (some m) N := fun m' em env L S K hl hs k => by
  cases em
  exact k env S (hl.trans h.len) (h.rel hs)
theorem QL.asg {M α : Type} [Pl α] {N : M → Cx} {i : Nat} {e : Qx} {ms : List Qm} {o : Option α} {k : α → Option M} (he : QE W c' Γ e o) (h : ∀ v, QL W c' (Γ.set i (some (own v))) ms (k v) N) : QL W c' Γ (.asg i e :: ms) (o.bind k) N := fun m em env L S K hl hs q => by
  obtain ⟨v, ev, em⟩ := bind_some' em
  exact he v ev env L S _ hl hs (h v m em (env.set i (some (enc v))) L S K (by rw [List.length_set, List.length_set]; exact hl) (Rel.asg hl (sep_pl rfl hs)) q)
theorem QL.lst {M α : Type} [Pl α] {N : M → Cx} {i : Nat} {es : List Qx} {ms : List Qm} {o : Option (List α)} {k : List α → Option M} (he : QEs W c' Γ es o) (hn : es.length ≤ 1000) (h : ∀ v : List α, QL W c' (Γ.set i (some (own v))) ms (k v) N) : QL W c' Γ (.lst i es :: ms) (o.bind k) N := fun m em env L S K hl hs q => by
  obtain ⟨v, ev, em⟩ := bind_some' em
  obtain ⟨lv, he⟩ := he v ev
  refine he env L S _ hl hs ⟨by rw [List.length_map, lv]; exact sz hn, fun p hp => ?_⟩
  exact h v m em (env.set i (some (.ref p))) L _ K (by rw [List.length_set, List.length_set]; exact hl) (Rel.asg hl ((New.lst hp).sep (.upd hp) hs)) q
theorem QL.app {M α : Type} [Pl α] {N : M → Cx} {i : Nat} {e : Qx} {ms : List Qm} {xs : List α} {o : Option α} {k : α → Option M} (ei : Γ[i]? = some (some (own xs))) (he : QE W c' Γ e o) (h : ∀ v, QL W c' (Γ.set i (some (own (xs ++ [v])))) ms (k v) N) : QL W c' Γ (.app i e :: ms) (o.bind fun v => ask (xs.length < sizeLine) (k v)) N := fun m em env L S K hl hs q => by
  obtain ⟨v, ev, em⟩ := bind_some' em
  obtain ⟨lx, em⟩ := ask_some em
  obtain ⟨d, ed, z⟩ := Rel.take ei hl hs
  have zz := z
  obtain ⟨h1, h2, dj, l1, l2, ⟨a, ds, rfl, w⟩, t⟩ := z
  have w0 := w
  obtain ⟨_, _, _, _, m2, _, w1⟩ := w
  obtain ⟨_, _, _, _, _, pt, _⟩ := w1
  have e1 := pts_pl.mp pt
  subst e1
  have cg := l1 _ _ w0.get
  refine ⟨a, ed, xs.map enc, cg, he v ev env L S _ hl hs ⟨xs.map enc, cg, by rw [List.length_map]; exact lx, ?_⟩⟩
  have s1 : Sep (Ls a (xs.map enc) :: (Rel (Γ.set i none) env ++ keep W.S0 :: L)) S := by
    have s0 : Sep (Sep [Ls a (xs.map enc), Pts (xs.map own) (xs.map enc)] :: (Rel (Γ.set i none) env ++ keep W.S0 :: L)) S := ⟨h1, h2, dj, l1, l2, w0, t⟩
    exact s0.imp fun k z => by
      obtain ⟨k1, k2, _, n1, _, c, _⟩ := z
      exact n1 _ _ c
  have s2 : Sep (Ls a ((xs ++ [v]).map enc) :: (Rel (Γ.set i none) env ++ keep W.S0 :: L)) (S.upd a (.lst (xs.map enc ++ [enc v]))) := by
    rw [List.map_append]
    exact s1.put
  refine h v m em env L _ K (by rw [List.length_set]; exact hl) ?_ q
  obtain ⟨k1, k2, kd, n1, n2, c, t2⟩ := s2
  have s3 : Sep (own (xs ++ [v]) (.ref a) :: (Rel (Γ.set i none) env ++ keep W.S0 :: L)) (S.upd a (.lst (xs.map enc ++ [enc v]))) := ⟨k1, k2, kd, n1, n2, own_lst c, t2⟩
  have s4 := Rel.put (r := own (xs ++ [v])) (by rw [List.length_set]; exact (List.getElem?_eq_some_iff.mp ei).1) ed s3
  rw [List.set_set] at s4
  exact s4
end
section
variable {M C B ρ Θ : Type} {W : Wo} {p : Po M C B ρ Θ} {Γ : Cx} {rest : Sms} {M1 : Type} {N : M1 → Cx}
def goT {ρ Θ α M1 : Type} {M C B : Type} (k : α → M1 → Option (Out M C B ρ Θ)) (θ : M1 → Θ) : Except Nat α × M1 → Option (Out M C B ρ Θ)
  | (.ok v, m) => k v m
  | (.error c, m) => some (.xx c (θ m))
end
end SW
namespace SW
open PySem L2
open Pl (enc)
open Rp (own rd)
theorem XN.mk {W : Wo} {M : Type} {N : M → Cx} {m : M} {τ ρ : Type} [Rp ρ] {c n : Nat} {es : Exs} {o : Option (τ × M)} {ec : τ → List D} {rs : τ → List (D → HP)} {g : τ → Option ρ} (h : XP W N m es o ec) (hr : ∀ v S, Ats (rs v) (ec v) S) (sp : ∀ v, SpI W.P W.T n c (rs v) (g v)) (hj : n ≤ W.j) :
    XN W N m (.mk c es) (o.bind fun p => (g p.1).bind fun r => some (r, p.2)) := fun v m' ev env L S Q X hl hs q => by
  obtain ⟨⟨y, m2⟩, eo, ev⟩ := bind_some' ev
  obtain ⟨w, ew, ev⟩ := bind_some' ev
  cases ev
  refine h y m2 eo env L S _ X hl hs fun S1 hl1 hs1 => ?_
  exact sp y W.j hj _ ew (ec y) S1 Q X (hr y S1) fun d S' l1 n1 => q d S' hl1 (n1.sep l1 hs1)
/-! ### sorted(set(..)) -/
def uq : List Int → List Int
  | [] => []
  | x :: xs => if x ∈ xs then uq xs else x :: uq xs
theorem mem_uq {k : Int} : ∀ {l : List Int}, k ∈ uq l ↔ k ∈ l
  | [] => Iff.rfl
  | x :: xs => by
    show k ∈ (if x ∈ xs then uq xs else x :: uq xs) ↔ _
    by_cases c : x ∈ xs
    · rw [if_pos c, mem_uq, List.mem_cons]
      exact ⟨.inr, fun h => h.elim (fun e => e ▸ c) id⟩
    · rw [if_neg c, List.mem_cons, List.mem_cons, mem_uq]
theorem uq_nodup : ∀ l : List Int, (uq l).Nodup
  | [] => List.nodup_nil
  | x :: xs => by
    show (if x ∈ xs then uq xs else x :: uq xs).Nodup
    by_cases c : x ∈ xs
    · rw [if_pos c]; exact uq_nodup xs
    · rw [if_neg c, List.nodup_cons]
      exact ⟨fun z => c (mem_uq.mp z), uq_nodup xs⟩
theorem uq_len : ∀ l : List Int, (uq l).length ≤ l.length
  | [] => Nat.le_refl _
  | x :: xs => by
    show (if x ∈ xs then uq xs else x :: uq xs).length ≤ _
    split
    · exact Nat.le_succ_of_le (uq_len xs)
    · exact Nat.succ_le_succ (uq_len xs)
def sortU (l : List Int) : List Int := sortI (uq l)
theorem sortU_eq {l m : List Int} (h : m.Pairwise (· < ·)) (e : ∀ k, k ∈ m ↔ k ∈ l) : m = sortU l :=
  sortI_eq ((List.perm_ext_iff_of_nodup (h.imp fun hh => Int.ne_of_lt hh) (uq_nodup l)).mpr fun k => (e k).trans mem_uq.symm) (h.imp fun hh => Int.le_of_lt hh)
theorem VE.sset {W : Wo} {Γ : Cx} {e : Ex} {o : Option (List Int)} (h : RE W Γ e o) : VE W Γ (.sset e) (o.bind fun x => ask (x.length < 64) (some (sortU x))) := fun v ev env L S Q X hl hs q => by
  obtain ⟨x, eo, ev⟩ := bind_some' ev
  obtain ⟨lx, ev⟩ := ask_some ev
  cases ev
  refine h.one eo hl hs fun d S1 l1 r1 _ => ?_
  obtain ⟨a, ds, rfl, c, r⟩ := r1
  have r := ats_pl.mp r
  subst r
  refine ⟨a, _, x, rfl, c, ints_of x, lx, fun ms p h1 h2 hp => ?_⟩
  rw [sortU_eq h1 h2]
  exact q _ _ (l1.trans (.upd hp)) ((New.lst hp).trans l1)
end SW
/-! J, part X: lists of things that stand in the heap. -/
namespace SW
open PySem L2
open Rp (own rd)
open Pl (enc)
theorem pts_at {α : Type} [Rp α] {v : α} : ∀ {xs : List α} {ds : List D} {j : Nat} {h : Store}, xs[j]? = some v → Pts (xs.map own) ds h → ∃ d V, ds[j]? = some d ∧ Sep [own v d, V] h ∧ ∀ w d2 k, Sep [own w d2, V] k → Pts ((xs.set j w).map own) (ds.set j d2) k
  | [], _, _, _, e, _ => by cases e
  | _ :: _, [], _, _, _, h => h.elim
  | x :: xs, d :: ds, 0, h, e, z => by
    cases e
    exact ⟨d, Pts (xs.map own) ds, rfl, pts_sep.mp z, fun w d2 k q => pts_sep.mpr q⟩
  | x :: xs, d :: ds, j + 1, h, e, z => by
    obtain ⟨h1, h2, dj, l1, l2, a, h3, h4, dj2, l3, l4, p, _⟩ := pts_sep.mp z
    obtain ⟨d', V, e1, s1, bk⟩ := pts_at (j := j) e p
    refine ⟨d', Sep [own x d, V], e1, ?_, fun w d2 k q => ?_⟩
    · have z0 : Sep (own x d :: Sep [own v d', V] :: []) h := ⟨h1, h2, dj, l1, l2, a, h3, h4, dj2, l3, l4, s1, trivial⟩
      have z2 : Sep ([own v d', V] ++ [own x d]) h := (show Sep (Sep [own v d', V] :: [own x d]) h from z0.swap).flat
      have z3 : Sep (own v d' :: ([own x d, V] ++ [])) h := (show Sep (own v d' :: V :: [own x d]) h from z2).under fun S z => z.swap
      exact z3.fold1
    · have z0 : Sep (own w d2 :: ([own x d, V] ++ [])) k := q.flat1
      have z1 : Sep ([own w d2, V] ++ [own x d]) k := (show Sep (own w d2 :: own x d :: V :: []) k from z0).under fun S z => z.swap
      have z4 : Sep (Pts ((xs.set j w).map own) (ds.set j d2) :: [own x d]) k := z1.fold.imp fun k z => bk w d2 k z
      exact pts_sep.mpr z4.swap
theorem set_same {α : Type} {l : List α} {j : Nat} {d : α} (h : l[j]? = some d) : l.set j d = l := by
  obtain ⟨lt, e⟩ := List.getElem?_eq_some_iff.mp h
  rw [← e, List.set_getElem_self]
section
variable {W : Wo} {Γ : Cx}
/-- a list's item as a place -/
theorem PL.ix {α : Type} [Rp α] {e b : Ex} {xs : List α} {set : List α → Cx} {i : Int} {j : Nat} {v : α} (h : PL W Γ e xs set) (hk : CE W Γ b i) (hj : ixN xs.length i = some j) (hv : xs[j]? = some v) : PL W Γ (.ix e b) v (fun w => set (xs.set j w)) := fun env L S hl hs => by
  obtain ⟨d, V, r, z, bk⟩ := h env L S hl hs
  obtain ⟨h1, h2, dj, l1, l2, ⟨a, ds, e1, c⟩, t⟩ := z
  have cg := c.get
  obtain ⟨k1, k2, dj2, l3, l4, pt, t2⟩ := c.swap
  have len := pt.len
  rw [List.length_map] at len
  obtain ⟨d', V', g1, g2, g3⟩ := pts_at hv pt
  subst e1
  refine ⟨d', Sep [V', Ls a ds, V], fun Q X q => r _ _ (hk env L S hl hs _ X ?_), ?_, fun w => ⟨(bk _).1, fun L' S' q => (bk _).2 L' S' ?_⟩⟩
  · refine .inl ⟨ds, i, d', l1 _ _ cg, rfl, ?_, q⟩
    unfold atI
    rw [← len, hj]
    exact g1
  · have z : Sep (Sep [Sep [own v d', V'], Ls a ds] :: V :: keep W.S0 :: L) S := ⟨h1, h2, dj, l1, l2, ⟨k1, k2, dj2, l3, l4, g2, t2⟩, t⟩
    have z : Sep (Sep [own v d', V'] :: ([Ls a ds] ++ (V :: keep W.S0 :: L))) S := z.flat
    have z : Sep ([own v d', V'] ++ ([Ls a ds] ++ (V :: keep W.S0 :: L))) S := z.flat
    have z : Sep (own v d' :: ([V', Ls a ds, V] ++ (keep W.S0 :: L))) S := z
    exact z.fold1
  · have q : Sep (own w d' :: ([V', Ls a ds, V] ++ (keep W.S0 :: L'))) S' := q.flat1
    have q : Sep ([own w d', V'] ++ ([Ls a ds] ++ (V :: keep W.S0 :: L'))) S' := q
    have q : Sep (Sep [own w d', V'] :: Ls a ds :: V :: keep W.S0 :: L') S' := q.fold
    have q : Sep (Pts ((xs.set j w).map own) ds :: Ls a ds :: V :: keep W.S0 :: L') S' := q.imp fun k z => by
      have := g3 w d' k z
      rw [set_same g1] at this
      exact this
    have q : Sep ([Ls a ds, Pts ((xs.set j w).map own) ds] ++ (V :: keep W.S0 :: L')) S' := q.swap
    exact q.fold.imp fun k' z => ⟨a, ds, rfl, z⟩
theorem PLO.ix {α : Type} [Rp α] {e b : Ex} {o : Option (List α)} {set : List α → Cx} {ok : Option Int} (h : PLO W Γ e o set) (hk : CEO W Γ b ok) : PLO W Γ (.ix e b) (o.bind fun xs => ok.bind fun i => atI xs i) (fun w => set ((o.bind fun xs => ok.bind fun i => (ixN xs.length i).bind fun j => some (xs.set j w)).getD [])) := fun v ev => by
  obtain ⟨xs, ex, ev⟩ := bind_some' ev
  obtain ⟨i, ek, ev⟩ := bind_some' ev
  subst ex ek
  obtain ⟨j, ej, ev⟩ := bind_some' (show (ixN xs.length i).bind (fun j => xs[j]?) = some v from ev)
  have q := (h xs rfl).ix (hk i rfl) ej ev
  have e : (fun w => set (((some xs).bind fun xs => (some i).bind fun i => (ixN xs.length i).bind fun j => some (xs.set j w)).getD [])) = fun w => set (xs.set j w) := by
    funext w
    rw [Option.bind_some, Option.bind_some, ej]
    rfl
  rw [e]
  exact q
/-! ### displays of things made anew -/
def NAs {α : Type} [Rp α] (W : Wo) (Γ : Cx) (es : Exs) (o : Option (List α)) : Prop := ∀ v, o = some v → ∀ env L S Q X, env.length = Γ.length → Sep (Rel Γ env ++ keep W.S0 :: L) S →
  (∀ ds S', Le S S' → ds.length = v.length → New (Pts (v.map own) ds) S S' → Q ds S') → W.Es es env S Q X
theorem NAs.nil {α : Type} [Rp α] : NAs W Γ .nil (some ([] : List α)) := fun v ev env L S Q X hl hs q => by
  cases ev
  exact q [] S .refl rfl ⟨fun _ => none, trivial, (fun _ _ z => by cases z), fun _ => .inr rfl⟩
theorem NAs.cons {α : Type} [Rp α] {e : Ex} {es : Exs} {oa : Option α} {o : Option (List α)} (ha : VE W Γ e oa) (h : NAs W Γ es o) : NAs W Γ (.cons e es) (oa.bind fun x => o.bind fun xs => some (x :: xs)) := fun v ev env L S Q X hl hs q => by
  obtain ⟨x, ea, ev⟩ := bind_some' ev
  obtain ⟨xs, eo, ev⟩ := bind_some' ev
  cases ev
  refine ha x ea env L S _ X hl hs fun d S1 l1 n1 => h xs eo env L S1 _ X hl (hs.le l1) fun ds S2 l2 ln n2 => q (d :: ds) S2 (l1.trans l2) (by rw [List.length_cons, List.length_cons, ln]) ?_
  obtain ⟨h1, a1, b1, c1⟩ := n1
  obtain ⟨h2, a2, b2, c2⟩ := n2
  have dj : Dj h1 h2 := fun a => by
    rcases c2 a with z | z
    · left
      cases w : h1 a with
      | none => rfl
      | some u => rw [b1 _ _ w] at z; cases z
    · exact .inr z
  refine ⟨fun a => match h1 a with | some c => some c | none => h2 a, ⟨h1, h2, dj, fun a c e => by simp only [e], fun a c e => ?_, a1, a2⟩, fun a c e => ?_, fun a => ?_⟩
  · rcases dj a with z | z
    · simp only [z]; exact e
    · rw [z] at e; cases e
  · cases w : h1 a with
    | none => simp only [w] at e; exact b2 _ _ e
    | some u =>
      simp only [w] at e
      cases e
      exact l2 _ _ (b1 _ _ w)
  · rcases c1 a with z | z
    · exact .inl z
    · rcases c2 a with y | y
      · left
        cases w : S a with
        | none => rfl
        | some u => rw [l1 _ _ w] at y; cases y
      · right
        simp only [z]
        exact y
end
section
variable {M C B ρ Θ : Type} {W : Wo} {p : Po M C B ρ Θ} {Γ : Cx} {rest : Sms}
/-- the ends of blocks, where one slot tells the state first -/
theorem J.nilAt {α : Type} [Rp α] {m : M} (i : Nat) {v : α} (e : Γ[i]? = some (some (own v))) (e2 : (p.n m)[i]? = some (some (own v))) (h : Fg Γ (p.n m)) : J W p Γ .nil (some (.nx m)) := .nil h
end
end SW
/-! J, part Y: what a def tells stands in what it was given; remove, clear. -/
namespace SW
open PySem L2
open Rp (own rd)
open Pl (enc)
/-- a reader whose told thing stands in what was handed in -/
def SpK {ρ : Type} [Rp ρ] (P : Prg) (T : Nat → Option FD) (n f : Nat) (rs : List (D → HP)) (o : Option ρ) : Prop :=
  ∀ k, n ≤ k → ∀ v, o = some v → ∀ ds S0 S Q X, Ats rs ds S0 → Le S0 S → (∀ d S', Le S S' → rd v d S0 → Q d S') → run P T k f ds S Q X
def rest0 (S S0 : Store) : Store := fun p => match S0 p with
  | some _ => none
  | none => S p
theorem keep_two {S S0 : Store} (l : Le S0 S) : Sep [keep S0, keep (rest0 S S0)] S := by
  refine ⟨S0, rest0 S S0, fun p => ?_, l, fun p c e => ?_, Le.refl, ⟨rest0 S S0, fun _ => none, fun _ => .inr rfl, .refl, (fun _ _ z => by cases z), Le.refl, trivial⟩⟩
  · unfold rest0
    cases S0 p with
    | none => exact .inl rfl
    | some c => exact .inr rfl
  · unfold rest0 at e
    cases h : S0 p with
    | none => rw [h] at e; exact e
    | some c => rw [h] at e; cases e
theorem le_join {S S0 S' : Store} (a : Le S0 S') (b : Le (rest0 S S0) S') (l : Le S0 S) : Le S S' := fun p c e => by
  cases h : S0 p with
  | none =>
    refine b p c ?_
    unfold rest0
    rw [h]
    exact e
  | some c2 =>
    have := l p c2 h
    rw [e] at this
    cases this
    exact a p c h
section
variable {P : Prg} {T : Nat → Option FD} {n f : Nat} {d : FD}
theorem SpK.fn {ρ : Type} [Rp ρ] {rs : List (D → HP)} {o : Option (Out Unit Unit Unit ρ Unit)} (hT : T f = some d) (hn : 1 ≤ n) (hr : rs.length = d.np) (h : FnP P T n d rs (fun S => ro S) o) : SpK P T n f rs (o.bind Out.pv) := fun k hk v ev ds S0 S Q X ha l q => by
  obtain ⟨r, er, ev⟩ := bind_some' ev
  cases k with
  | zero => omega
  | succ j =>
    cases r with
    | rt w u =>
      cases ev
      have hl : ds.length = d.np := by rw [← ha.len, hr]
      refine ⟨d, hT, hl, h j hk S0 _ er (startE d.ns ds) [keep (rest0 S S0)] S (endK Q X) ?_ ?_ ?_⟩
      · unfold startE roC nons
        rw [List.length_append, List.length_append, List.length_map, List.length_map, List.length_replicate, List.length_replicate, hl, hr]
      · unfold startE
        rw [hl]
        exact ro_rel ha (keep_two l)
      · intro d' env S' hl' hs'
        obtain ⟨h1, h2, dj, m1, m2, a, t⟩ := hs'
        have a : rd v d' S0 := a
        have t := rel_drop t
        have t1 := keep_le (A := []) t
        have t2 := keep_le (A := [keep S0]) t
        exact q d' S' (le_join (t1.trans m2) (t2.trans m2) l) a
    | nx m => cases ev
    | ct m => cases ev
    | bk m => cases ev
    | xx c θ => cases ev
end
section
variable {W : Wo} {Γ : Cx}
theorem KE.meth {α τ ρ : Type} [Rp α] [Rp ρ] {c m f n : Nat} {a : Ex} {es : Exs} {oa : Option α} {o : Option τ} {rs : τ → List (D → HP)} {g : α → τ → Option ρ} (hc : Ob α c) (hm : W.P.meth c m = some f) (ha : KE W Γ a oa) (h : RAs W Γ es o rs) (hp : ∀ v ds S S', Ats (rs v) ds S → Ats (rs v) ds S') (sp : ∀ x v, SpK W.P W.T n f (rd x :: rs v) (g x v)) (hj : n ≤ W.j) : KE W Γ (.meth a m es) (oa.bind fun x => o.bind fun v => g x v) := fun v ev env L S Q X hl hs q => by
  cases ea : oa with
  | none => rw [ea] at ev; cases ev
  | some x =>
  cases eo : o with
  | none => rw [ea, eo] at ev; cases ev
  | some y =>
  rw [ea, eo] at ev
  refine ha x ea env L S _ X hl hs fun d S1 l1 r1 => ?_
  have hs1 := hs.le l1
  obtain ⟨p, fs, rfl, e1⟩ := hc x d S1 (Rp.rd_up (keep_le hs1) r1)
  exact ⟨p, c, fs, f, rfl, e1, hm, h y eo env L S1 _ X hl hs1 fun ds S2 l2 r2 _ => sp x y W.j hj v ev (.ref p :: ds) W.S0 S2 Q X ⟨r1, hp y ds S2 W.S0 r2⟩ ((keep_le hs1).trans l2) fun d S' l z => q d S' ((l1.trans l2).trans l) z⟩
end
section
variable {M C B ρ Θ : Type} {W : Wo} {p : Po M C B ρ Θ} {Γ : Cx} {rest : Sms}
/-- the ends of blocks, where two or three slots tell the state first -/
theorem J.nilAt2 {α0 : Type} [Rp α0] {α1 : Type} [Rp α1] {m : M} {v0 : α0} {v1 : α1} (i0 : Nat) (e0 : Γ[i0]? = some (some (own v0))) (f0 : (p.n m)[i0]? = some (some (own v0))) (i1 : Nat) (e1 : Γ[i1]? = some (some (own v1))) (f1 : (p.n m)[i1]? = some (some (own v1))) (h : Fg Γ (p.n m)) : J W p Γ .nil (some (.nx m)) := .nil h
theorem J.nilP {α : Type} [Rp α] {m : M} {d : D} (i : Nat) {v : α} (e : Γ[i]? = some (some (pin d v))) (f : (p.n m)[i]? = some (some (pin d v))) (h : J W p Γ .nil (some (.nx m))) : J W p Γ .nil (some (.nx m)) := h
end
end SW
/-! J, part Z: dict displays of one key, least tuples, dict(..), sorted(two texts), walks over dicts that may be left. -/
namespace SW
open PySem L2
open Rp (own rd)
open Pl (enc)
/-- a cell that was laid first, over new parts -/
theorem New.cell2 {S S2 : Store} {p : Addr} {c0 c : Cell} {B : HP} (hp : S p = none) (n : New B (S.upd p c0) S2) : New (Sep [Cl p c, B]) S (S2.upd p c) := by
  obtain ⟨k, a, b, dj⟩ := n
  have kp : k p = none := by
    rcases dj p with z | z
    · rw [Store.upd_same] at z; cases z
    · exact z
  refine ⟨k.upd p c, ?_, fun x d e => ?_, fun x => ?_⟩
  · have s2 : Sep [B] k := ⟨k, fun _ => none, fun _ => .inr rfl, .refl, (fun _ _ z => by cases z), a, trivial⟩
    exact s2.new kp
  · by_cases q : x = p
    · rw [q, Store.upd_same] at e ⊢; exact e
    · rw [Store.upd_ne q] at e ⊢; exact b _ _ e
  · by_cases q : x = p
    · left; rw [q]; exact hp
    · rw [Store.upd_ne q]
      have := dj x
      rw [Store.upd_ne q] at this
      exact this
theorem Le.upd2 {S S2 : Store} {p : Addr} {c0 c : Cell} (hp : S p = none) (l : Le (S.upd p c0) S2) : Le S (S2.upd p c) := fun x d e => by
  have ne : x ≠ p := fun z => by rw [z, hp] at e; cases e
  rw [Store.upd_ne ne]
  exact l x d (by rw [Store.upd_ne ne]; exact e)
section
variable {W : Wo} {Γ : Cx}
/-- {k: v} -/
def d1v {κ α : Type} (k : κ) (v : α) : Dct κ α := ([(k, v)] : List (κ × α))
theorem VE.dic1 {κ α : Type} [Ky κ] [Rp α] {ek ev : Ex} {vs : Exs} {ok : Option κ} {ov : Option α} (hk : RE W Γ ek ok) (hv : VE W Γ ev ov) : VE W Γ (.dic (.cons ek (.cons ev .nil)) vs) (ok.bind fun k => ov.bind fun v => some (d1v k v : Dct κ α)) := fun z ez env L S Q X hl hs q => by
  obtain ⟨k, e1, ez⟩ := bind_some' ez
  obtain ⟨v, e2, ez⟩ := bind_some' ez
  cases ez
  intro p hp
  have hs1 := hs.le (Le.upd (c := .dic []) hp)
  refine hk.one e1 hl hs1 fun dk S1 l1 r1 hs2 => hv v e2 env L S1 _ X hl hs2 fun dv S2 l2 n2 => ?_
  have ek := Pl.rd_iff.mp r1
  subst ek
  have l12 := l1.trans l2
  have n2 := n2.trans l1
  refine ⟨l12 _ _ Store.upd_same, [(enc k, dv)], ?_, (by decide : 1 ≤ 15), ?_⟩
  · unfold pairsOf
    rw [if_pos (Ky.key k)]
    rfl
  · have em : mergeD [] [(enc k, dv)] = [(enc k, dv)] := rfl
    rw [em]
    refine q _ _ (Le.upd2 hp l12) ?_
    obtain ⟨h, a, b, c⟩ := New.cell2 (c := .dic [(enc k, dv)]) hp n2
    refine ⟨h, ⟨List.nodup_cons.mpr ⟨List.not_mem_nil, List.nodup_nil⟩, p, [dv], rfl, ?_⟩, b, c⟩
    obtain ⟨h1, h2, dj, m1, m2, c1, h3, h4, dj2, m3, m4, o, _⟩ := a
    exact ⟨h1, h2, dj, m1, m2, c1, h2, fun _ => none, fun _ => .inr rfl, .refl, (fun _ _ z => by cases z), pts_sep.mpr ⟨h3, h4, dj2, m3, m4, o, ⟨fun _ => none, fun _ => none, fun _ => .inl rfl, (fun _ _ z => by cases z), (fun _ _ z => by cases z), trivial, trivial⟩⟩, trivial⟩
/-- rows of one length -/
class Lx1 (α : Type) extends Lx α where
  len : Nat
  ln : ∀ x : α, (ns x).length = len
instance : Lx1 (T2 Int Int) := { len := 2, ln := fun _ => rfl }
instance : Lx1 (T3 Int Int Int) := { len := 3, ln := fun _ => rfl }
instance : Lx1 (T4 Int Int Int Int) := { len := 4, ln := fun _ => rfl }
/-- dict(a list of pairs) -/
def dOf {κ α : Type} [DecidableEq κ] (xs : List (T2 κ α)) : Dct κ α := xs.foldl (fun d x => dp d x.a x.b) d0
def encD {κ α : Type} [Pl κ] [Pl α] (l : List (κ × α)) : List (D × D) := l.map fun p => (enc p.1, enc p.2)
theorem encD_put {κ α : Type} [Ky κ] [DecidableEq κ] [Pl α] (k : κ) (v : α) : ∀ l : List (κ × α), (l.map fun p => p.1).Nodup → putK (enc k) (enc v) (encD l) = encD (lp l k v) := by
  have has : ∀ l : List (κ × α), hasK (enc k) (encD l) = l.any fun p => decide (p.1 = k) := fun l => by
    unfold hasK encD
    rw [List.any_map]
    refine congrArg (fun f => l.any f) (funext fun p => ?_)
    exact eqk_dec p.1 k
  have rep : ∀ l : List (κ × α), (l.map fun p => p.1).Nodup → (l.any fun p => decide (p.1 = k)) = true → repK (enc k) (enc v) (encD l) = encD (lp l k v) := by
    intro l
    induction l with
    | nil => intro _ h; cases h
    | cons p r ih =>
      intro n h
      obtain ⟨q, u⟩ := p
      rw [List.map_cons, List.nodup_cons] at n
      show (if eqK (enc q) (enc k) = true then (enc q, enc v) else (enc q, enc u)) :: repK (enc k) (enc v) (encD r) = encD (if q = k then (q, v) :: r else (q, u) :: lp r k v)
      rw [eqk_dec]
      by_cases c : q = k
      · rw [if_pos c, decide_eq_true c, if_pos rfl]
        have nk : ∀ p ∈ r, ¬ p.1 = k := fun p hp e => n.1 (List.mem_map.mpr ⟨p, hp, e.trans c.symm⟩)
        have e2 : repK (enc k) (enc v) (encD r) = encD r := by
          unfold repK encD
          rw [List.map_map]
          refine List.map_congr_left fun p hp => ?_
          show (if eqK (enc p.1) (enc k) = true then _ else _) = _
          rw [eqk_dec, decide_eq_false (nk p hp), if_neg Bool.false_ne_true]
        rw [e2]
        rfl
      · rw [if_neg c, decide_eq_false c, if_neg Bool.false_ne_true]
        rw [List.any_cons, decide_eq_false c, Bool.false_or] at h
        rw [ih n.2 h]
        rfl
  intro l n
  unfold putK
  rw [has]
  cases c : l.any fun p => decide (p.1 = k) with
  | true => rw [if_pos rfl]; exact rep l n c
  | false =>
    rw [if_neg Bool.false_ne_true]
    have nk : k ∉ l.map fun p => p.1 := fun h => by
      obtain ⟨p, hp, e⟩ := List.mem_map.mp h
      have := List.any_eq_false.mp c p hp
      rw [decide_eq_true e] at this
      exact this rfl
    have e2 : ∀ l : List (κ × α), k ∉ l.map (fun p => p.1) → lp l k v = l ++ [(k, v)] := by
      intro l
      induction l with
      | nil => intro _; rfl
      | cons p r ih =>
        intro h
        obtain ⟨q, u⟩ := p
        rw [List.map_cons, List.mem_cons, not_or] at h
        show (if q = k then _ else (q, u) :: lp r k v) = _
        rw [if_neg (fun z => h.1 z.symm), ih h.2]
        rfl
    rw [e2 l nk]
    unfold encD
    rw [List.map_append]
    rfl
theorem encD_merge {κ α : Type} [Ky κ] [DecidableEq κ] [Pl α] : ∀ (xs : List (T2 κ α)) (l : List (κ × α)), (l.map fun p => p.1).Nodup → mergeD (encD l) (xs.map fun x => (enc x.a, enc x.b)) = encD (xs.foldl (fun (d : Dct κ α) x => dp d x.a x.b) l) ∧ ((xs.foldl (fun (d : Dct κ α) x => dp d x.a x.b) l).map fun p => p.1).Nodup
  | [], l, n => ⟨rfl, n⟩
  | x :: xs, l, n => by
    have ih := encD_merge xs (lp l x.a x.b) (lp_nodup n)
    rw [← encD_put _ _ l n] at ih
    exact ih
theorem kvs_of {κ α : Type} [Ky κ] [Pl α] : ∀ xs : List (T2 κ α), kvsOf (xs.map enc) = some (xs.map fun x => (enc x.a, enc x.b))
  | [] => rfl
  | x :: xs => by
    show (if isKey (enc x.a) = true then (kvsOf (xs.map enc)).map ((enc x.a, enc x.b) :: ·) else none) = _
    rw [if_pos (Ky.key x.a), kvs_of xs]
    rfl
theorem New.dic {κ α : Type} [Ky κ] [Pl α] {x : Dct κ α} {S : Store} {p : Addr} (n : x.keys.Nodup) (h : S p = none) : New (own x (.ref p)) S (S.upd p (.dic (encD x.l))) :=
  .one h fun k e => ⟨n, p, x.l.map fun q => enc q.2, rfl, ⟨k, fun _ => none, fun _ => .inr rfl, .refl, (fun _ _ z => by cases z), by
    show k p = some (.dic (kds x (x.l.map fun q => enc q.2)))
    rw [e]
    have z : kds x (x.l.map fun q => enc q.2) = encD x.l := by
      unfold kds encD
      generalize x.l = l
      induction l with
      | nil => rfl
      | cons q l ih => rw [List.map_cons, List.map_cons, List.zip_cons_cons, ih, List.map_cons]
    rw [z], ⟨fun _ => none, fun _ => none, fun _ => .inl rfl, .refl, .refl, by
      have e3 : (x.l.map fun p => own p.2) = (x.l.map (·.2)).map own := by rw [List.map_map]; rfl
      rw [e3]
      refine pts_pl.mpr ?_
      rw [List.map_map]
      rfl, trivial⟩⟩⟩
theorem VE.dictL {κ α : Type} [Ky κ] [DecidableEq κ] [Pl α] {e : Ex} {o : Option (List (T2 κ α))} (h : LL W Γ e o) : VE W Γ (.blt .dict (.cons e .nil)) (o.bind fun x => some (dOf x)) := LL.bltV _ (fun x z a ds S Q e c r q => by
  cases e
  have e2 := ats_pl.mp r
  subst e2
  refine ⟨_, _, c, kvs_of x, fun p hp => ?_⟩
  obtain ⟨m1, m2⟩ := encD_merge x [] List.nodup_nil
  have m1 : mergeD [] (x.map fun x => (enc x.a, enc x.b)) = encD (dOf x).l := m1
  rw [m1]
  exact q _ _ (.upd hp) (.dic m2 hp)) h
end
/-! ### walks over dicts that may be left by return -/
section
variable {M C B ρ Θ : Type} {W : Wo} {p : Po M C B ρ Θ} {Γ : Cx} {rest : Sms} {M0 : Type} {N : M0 → Cx} {κ α : Type} [Ky κ] [Rp α]
end
section
variable {M C B ρ Θ : Type} {W : Wo} {p : Po M C B ρ Θ} {Γ : Cx} {rest : Sms} {M0 : Type} {κ α : Type} [Ky κ]
end
section
end
/-! ### dicts that are looked at only, locked perhaps -/
structure RD (κ α : Type) where
  d : Dct κ α
def rdZ {κ α : Type} [Ky κ] [Rp α] (x : Dct κ α) : D → HP := fun d h => x.keys.Nodup ∧ ∃ a ds, d = .ref a ∧ h.rd a = some (.dic (kds x ds)) ∧ Ats (x.l.map fun p => rd p.2) ds h
theorem rdZ_up {κ α : Type} [Ky κ] [Rp α] {x : Dct κ α} {d : D} {h h' : Store} (l : Le h h') : rdZ x d h → rdZ x d h' := fun ⟨nd, a, ds, e1, e2, r⟩ => ⟨nd, a, ds, e1, by
  unfold Store.rd at e2 ⊢
  cases z : h a with
  | none => rw [z] at e2; cases e2
  | some c => rw [z] at e2; rw [l _ _ z]; exact e2, by
  have e2 : (x.l.map fun p => rd p.2) = (x.l.map (·.2)).map rd := by rw [List.map_map]; rfl
  rw [e2] at r ⊢
  exact ats_rd_up l r⟩
instance {κ α : Type} [Ky κ] [Rp α] : Rp (RD κ α) where
  own x := rdZ x.d
  rd x := rdZ x.d
  own_up := rdZ_up
  rd_up := rdZ_up
  own_rd := id
section
variable {W : Wo} {Γ : Cx} {κ α : Type} [Ky κ] [DecidableEq κ] [Rp α]
end
end SW
/-! J, part Za: pairs of things that stand in the heap. -/
namespace SW
open PySem L2
open Rp (own rd)
open Pl (enc)
structure P2 (α β : Type) where
  a : α
  b : β
instance {α β : Type} [Rp α] [Rp β] : Rp (P2 α β) where
  own x d h := ∃ ds, d = .tup ds ∧ Pts [own x.a, own x.b] ds h
  rd x d h := ∃ ds, d = .tup ds ∧ Ats [rd x.a, rd x.b] ds h
  own_up l := fun ⟨ds, e, z⟩ => ⟨ds, e, z.up l⟩
  rd_up l := fun ⟨ds, e, z⟩ => ⟨ds, e, Ats.up (fun r m d h h' l q => by
    rcases List.mem_cons.mp m with e | m
    · rw [e] at q ⊢; exact Rp.rd_up l q
    · rw [List.mem_singleton.mp m] at q ⊢; exact Rp.rd_up l q) l z⟩
  own_rd := fun {x d h} ⟨ds, e, z⟩ => ⟨ds, e, pts_ats (rs := [own x.a, own x.b]) (rs' := [rd x.a, rd x.b]) rfl (fun i r r' e e' d h h' l q => by
    match i with
    | 0 => cases e; cases e'; exact Rp.rd_up l (Rp.own_rd q)
    | 1 => cases e; cases e'; exact Rp.rd_up l (Rp.own_rd q)
    | i + 2 => cases e) z⟩
/-- two new things, one behind the other -/
theorem New.two {A B : HP} {S S1 S2 : Store} (n1 : New A S S1) (l1 : Le S S1) (n2 : New B S1 S2) (l2 : Le S1 S2) : New (Sep [A, B]) S S2 := by
  obtain ⟨h1, a1, b1, c1⟩ := n1
  obtain ⟨h2, a2, b2, c2⟩ := n2
  have dj : Dj h1 h2 := fun a => by
    rcases c2 a with z | z
    · left
      cases w : h1 a with
      | none => rfl
      | some u => rw [b1 _ _ w] at z; cases z
    · exact .inr z
  refine ⟨mix h1 h2, ⟨h1, h2, dj, mix_l, mix_r dj, a1, h2, fun _ => none, fun _ => .inr rfl, .refl, (fun _ _ z => by cases z), a2, trivial⟩, fun a c e => ?_, fun a => ?_⟩
  · unfold mix at e
    cases z : h1 a with
    | none => rw [z] at e; exact b2 a c e
    | some u => rw [z] at e; cases e; exact l2 _ _ (b1 _ _ z)
  · unfold mix
    cases z : h1 a with
    | none =>
      cases w : S a with
      | none => exact .inl rfl
      | some u =>
        right
        rcases c2 a with q | q
        · rw [l1 _ _ w] at q; cases q
        · exact q
    | some u =>
      left
      rcases c1 a with q | q
      · exact q
      · rw [q] at z; cases z
section
variable {W : Wo} {Γ : Cx}
theorem VE.p2 {α β : Type} [Rp α] [Rp β] {a b : Ex} {oa : Option α} {ob : Option β} (ha : VE W Γ a oa) (hb : VE W Γ b ob) : VE W Γ (.tup (.cons a (.cons b .nil))) (oa.bind fun x => ob.bind fun y => some (⟨x, y⟩ : P2 α β)) := fun v ev env L S Q X hl hs q => by
  obtain ⟨x, ea, ev⟩ := bind_some' ev
  obtain ⟨y, eb, ev⟩ := bind_some' ev
  cases ev
  refine ha x ea env L S _ X hl hs fun d1 S1 l1 n1 => hb y eb env L S1 _ X hl (hs.le l1) fun d2 S2 l2 n2 => ⟨(by decide : 2 ≤ sizeLine), q _ S2 (l1.trans l2) ?_⟩
  obtain ⟨h, z, l, dj⟩ := n1.two l1 n2 l2
  obtain ⟨h1, h2, d3, m1, m2, o1, h3, h4, d4, m3, m4, o2, _⟩ := z
  exact ⟨h, ⟨[d1, d2], rfl, pts_sep.mpr ⟨h1, h2, d3, m1, m2, o1, h2, fun _ => none, fun _ => .inr rfl, .refl, (fun _ _ z => by cases z), pts_sep.mpr ⟨h3, h4, d4, m3, m4, o2, ⟨fun _ => none, fun _ => none, fun _ => .inl rfl, (fun _ _ z => by cases z), (fun _ _ z => by cases z), trivial, trivial⟩⟩, trivial⟩⟩, l, dj⟩
theorem AsT.p2 {α β : Type} [Rp α] [Rp β] {x : P2 α β} {s t : Tg} {Γ1 Γ2 : Cx} (h1 : AsT s (own x.a) Γ Γ1) (h2 : AsT t (own x.b) Γ1 Γ2) : AsT (.tup (.cons s (.cons t .nil))) (own x) Γ Γ2 := fun d env L S hl hs => by
  obtain ⟨k1, k2, dj, l1, l2, ⟨ds, e, z⟩, t0⟩ := hs
  subst e
  match ds, z with
  | [d1, d2], z =>
    obtain ⟨h1', h2', d3, m1, m2, o1, h3, h4, d4, m3, m4, p2, _⟩ := pts_sep.mp z
    obtain ⟨h5, h6, d5, m5, m6, o2, _⟩ := pts_sep.mp p2
    have s1 : Sep (Sep [own x.a d1, own x.b d2] :: (Rel Γ env ++ L)) S := ⟨k1, k2, dj, l1, l2, ⟨h1', h2', d3, m1, m2, o1, h3, h4, d4, m3, m4, Rp.own_up m5 o2, trivial⟩, t0⟩
    have s2 : Sep (own x.a d1 :: own x.b d2 :: (Rel Γ env ++ L)) S := s1.flat
    have s3 : Sep (own x.a d1 :: (Rel Γ env ++ (own x.b d2 :: L))) S := s2.under fun S z => z.perm (List.perm_middle (a := own x.b d2) (l₁ := Rel Γ env) (l₂ := L)).symm
    obtain ⟨e1, a1, a2, a3⟩ := h1 d1 env _ S hl s3
    have s4 : Sep (own x.b d2 :: (Rel Γ1 e1 ++ L)) S := a3.perm (List.perm_middle (a := own x.b d2) (l₁ := Rel Γ1 e1) (l₂ := L))
    obtain ⟨e2, b1, b2, b3⟩ := h2 d2 e1 L S a2 s4
    refine ⟨e2, ?_, b2, b3⟩
    show (match asgT s d1 env with | none => none | some env' => asgTs (.cons t .nil) [d2] env') = some e2
    rw [a1]
    show (match asgT t d2 e1 with | none => none | some env' => asgTs .nil [] env') = some e2
    rw [b1]
    rfl
end
section
variable {M C B ρ Θ : Type} {W : Wo} {p : Po M C B ρ Θ} {Γ : Cx} {rest : Sms}
end
end SW
/-! J, part Zb: lists thinned by what changes things; a pair with a thing of one's own. -/
namespace SW
open PySem L2
open Rp (own rd)
open Pl (enc)
section
variable {W : Wo} {Γ : Cx}
end
section
variable {W : Wo}
end
section
variable {W : Wo} {Γ : Cx}
/-- what is walked stays only while the store grows -/
def IO {α : Type} [Rp α] (W : Wo) (Γ : Cx) (it : Itx) (o : Option (List α)) : Prop := ∀ xs, o = some xs → ∀ env L S (K : List D → (Store → Prop) → Store → Prop) X, env.length = Γ.length → Sep (Rel Γ env ++ keep W.S0 :: L) S →
  (∀ ds g S1 S', Le S S' → Le W.S0 S1 → Ats (xs.map rd) ds S1 → (∀ S2, Le S' S2 → g S2) → Sep (Rel Γ env ++ keep S1 :: L) S' → K ds g S') → wpI W.P (run W.P W.T W.j) (runM W.P W.T W.j) it env S K X
theorem IO.own {α : Type} [Pl α] {i : Nat} {xs : List α} (e : Γ[i]? = some (some (own xs))) : IO W Γ (.seq (.var i)) (some xs) := fun ys ey env L S K X hl hs q => by
  cases ey
  obtain ⟨d, ed, h1, h2, dj, l1, l2, ow, t⟩ := Rel.take e hl hs
  obtain ⟨p, ds, rfl, c, r⟩ := own_cell ow
  have e2 := ats_pl.mp r
  subst e2
  have c2 := l1 _ _ c
  exact ⟨_, ed, _, c2, q _ _ W.S0 S .refl .refl (ats_pl.mpr rfl) (fun S2 l2 => l2 _ _ c2) hs⟩
end
/-! ### two lists alike, with truths inside -/
/-- dict(a list of pairs that is drawn) -/
theorem XN.dictL {W : Wo} {M : Type} {N : M → Cx} {m : M} {κ α : Type} [Ky κ] [DecidableEq κ] [Pl α] {b : Ex} {ob : Option (List (T2 κ α) × M)} (hb : XN W N m b ob) : XN W N m (.blt .dict (.cons b .nil)) (ob.bind fun p => some (dOf p.1, p.2)) := fun v m' ev env L S Q X hl hs q => by
  obtain ⟨⟨x, m2⟩, ex, ev⟩ := bind_some' ev
  cases ev
  refine hb x m2 ex env L S _ X hl hs fun d2 S2 hl2 hs2 => ?_
  obtain ⟨a, ds, rfl, c, r⟩ := one_rd hs2
  have e2 := ats_pl.mp r
  subst e2
  refine ⟨_, _, c, kvs_of x, fun p hp => ?_⟩
  obtain ⟨m1, m2'⟩ := encD_merge x [] List.nodup_nil
  have m1 : mergeD [] (x.map fun x => (enc x.a, enc x.b)) = encD (dOf x).l := m1
  rw [m1]
  exact q _ _ hl2 ((New.dic m2' hp).sep (.upd hp) hs2.tail)
/-- x is True, x is not True: of truths -/
theorem RE.isT {W : Wo} {Γ : Cx} {a : Ex} {oa : Option Bool} (ha : RE W Γ a oa) : RE W Γ (.cmp .is a (.cst (.bl true))) (oa.bind fun x => some x) := fun v ev env L S Q X hl hs q => by
  obtain ⟨x, ex, ev⟩ := bind_some' ev
  cases ev
  refine ha.one ex hl hs fun d S' l r _ => ?_
  have e := Pl.rd_iff.mp r
  subst e
  show Q (.bl (decide (_ = true))) S'
  rw [show ∀ y : Bool, decide (y = true) = y from fun y => by cases y <;> rfl]
  exact q _ S' l rfl
end SW
/-! J, part Zc: more of dicts. -/
namespace SW
open PySem L2
open Rp (own rd)
open Pl (enc)
section
variable {W : Wo} {Γ : Cx}
/-- how many unlike ones -/
theorem RE.lset {e : Ex} {o : Option (List Int)} (h : LL W Γ e o) : RE W Γ (.lset e) (o.bind fun x => ask (x.length < 1000) (some ((x.foldl PyProof.Rows.step_dedup []).length : Int))) := fun v ev env L S Q X hl hs q => by
  obtain ⟨x, ex, ev⟩ := bind_some' ev
  obtain ⟨lx, ev⟩ := ask_some ev
  cases ev
  refine h x ex env L S _ X hl hs fun a ds S' l c r => ?_
  have r := ats_pl.mp r
  subst r
  exact ⟨a, _, x, rfl, c, ints_of _, lx, q _ S' l rfl⟩
theorem stp_map {α β : Type} (f : α → β) (xs : List α) (lo hi st : Option Int) : stpL lo hi st (xs.map f) = (stpL lo hi st xs).map f := by
  unfold stpL
  rw [List.length_map, List.map_filterMap]
  refine congrArg (fun g => List.filterMap g _) (funext fun k => ?_)
  rw [List.getElem?_map]
theorem VE.slc3 {α : Type} [Pl α] {a : Ex} {lo hi st : Ox} {oa : Option (List α)} {ol oh ot : Option (Option Int)} (ha : RE W Γ a oa) (hlo : OE W Γ lo ol) (hhi : OE W Γ hi oh) (hst : OE W Γ st ot) :
    VE W Γ (.slc3 a lo hi st) (oa.bind fun x => ol.bind fun l => oh.bind fun h => ot.bind fun t => ask (t ≠ some 0) (some (stpL l h t x))) := fun v ev env L S Q X hl hs q => by
  obtain ⟨x, ea, ev⟩ := bind_some' ev
  obtain ⟨l, el, ev⟩ := bind_some' ev
  obtain ⟨h, eh, ev⟩ := bind_some' ev
  obtain ⟨t, et, ev⟩ := bind_some' ev
  obtain ⟨t0, ev⟩ := ask_some ev
  cases ev
  refine ha.one ea hl hs fun d S1 l1 r1 hs1 => hlo l el env L S1 _ X hl hs1 fun S2 l2 => hhi h eh env L S2 _ X hl (hs1.le l2) fun S3 l3 => hst t et env L S3 _ X hl ((hs1.le l2).le l3) fun S4 l4 => ?_
  obtain ⟨b, ds, rfl, c, r⟩ := r1
  have e2 := ats_pl.mp r
  subst e2
  have l14 := (l2.trans l3).trans l4
  refine ⟨x.map enc, by simp only [seqRef, l14 _ _ c], t0, fun p hp => ?_⟩
  rw [stp_map]
  exact q _ _ ((l1.trans l14).trans (.upd hp)) ((New.lst hp).trans (l1.trans l14))
end
/-! ### rows of whole numbers, sorted -/
/-! ### a comprehension over a dict -/
end SW
/-! J, part Zd: things lent for a call; a def that changes what stands at a place. -/
namespace SW
open PySem L2
open Rp (own rd)
open Pl (enc)
section
variable {W : Wo} {Γ : Cx}
/-- an item of a list that is kept -/
theorem KE.lix {α : Type} [Rp α] {a b : Ex} {oa : Option (List α)} {ob : Option Int} (ha : KE W Γ a oa) (hb : RE W Γ b ob) : KE W Γ (.ix a b) (oa.bind fun x => ob.bind fun y => atI x y) := fun v ev env L S Q X hl hs q => by
  obtain ⟨x, ea, ev⟩ := bind_some' ev
  obtain ⟨y, eb, ev⟩ := bind_some' ev
  refine ha x ea env L S _ X hl hs fun d1 S1 l1 r1 => hb.one eb hl (hs.le l1) fun d2 S2 l2 r2 hs2 => ?_
  cases r2
  obtain ⟨p, ds, rfl, e1, r1⟩ := r1
  obtain ⟨d, e2, r⟩ := ats_at r1 ev
  exact .inl ⟨ds, y, d, (keep_le hs2) _ _ e1, rfl, e2, q d S2 (l1.trans l2) r⟩
end
end SW
/-! J, part Ze: rows of unlike things (lists, tuples); == of what holds lists. -/
namespace SW
open PySem L2
open Rp (own rd)
open Pl (enc)
/-- what can be told alike by ==, through lists -/
class Ev (α : Type) extends Rp α where
  dec : DecidableEq α
  pd : α → PyData
  dn : Nat
  ok : α → Bool
  to : ∀ {x : α} {d : D} {S : Store}, ok x = true → rd x d S → ∃ N, ∀ n, N ≤ n → toPD n S d = some (pd x)
  lay : ∀ x : α, ok x = true → (pd x).canLay0 = true ∧ (pd x).depth ≤ dn
  ev : ∀ x y : α, ok x = true → ok y = true → (PyData.eqv (pd x) (pd y) = true ↔ x = y)
instance (priority := 2000) {α : Type} [h : Pe α] : Ev α where
  toRp := h.toPl.toRp
  dec := h.pd
  pd x := pdD (enc x)
  dn := h.pn
  ok _ := true
  to {x d S} _ r := by
    rw [Pl.rd_iff.mp r]
    exact pl_toPD _ h.pn S (h.pl x _ (Nat.le_refl _))
  lay x _ := pl_lay _ h.pn (h.pl x _ (Nat.le_refl _))
  ev x y _ _ := (pl_eqv _ h.pn h.pn _ (h.pl x _ (Nat.le_refl _)) (h.pl y _ (Nat.le_refl _))).trans ⟨h.inj x y, fun e => by rw [e]⟩
/-- plain things with texts within -/
@[reducible] def evPl {α : Type} [h : Pl α] (dc : DecidableEq α) (n : Nat) (inj : ∀ x y : α, enc x = enc y → x = y) : Ev α where
  toRp := h.toRp
  dec := dc
  pd x := pdD (enc x)
  dn := n
  ok x := plD n (enc x)
  to {x d S} o r := by
    rw [Pl.rd_iff.mp r]
    exact pl_toPD _ n S o
  lay x o := pl_lay _ n o
  ev x y o p := (pl_eqv _ n n _ o p).trans ⟨inj x y, fun e => by rw [e]⟩
instance : Ev Str := evPl inferInstance 0 fun x y e => by cases e; rfl
instance : Ev (T2 Str Str) := evPl inferInstance 1 fun x y e => by
  cases x
  cases y
  cases e
  rfl
instance : Ev Bool where
  dec := inferInstance
  pd x := .bool x
  dn := 0
  ok _ := true
  to {x d S} _ r := by
    cases r
    exact pd_at fun _ => rfl
  lay x _ := ⟨rfl, Nat.le_refl _⟩
  ev x y _ _ := by
    rw [eqv_bool]
    cases x <;> cases y <;> simp
theorem evs_to {α : Type} [h : Ev α] {S : Store} : ∀ {xs : List α} {ds : List D}, xs.all h.ok = true → Ats (xs.map rd) ds S → Pds S ds (xs.map h.pd)
  | [], [], _, _ => pds_nil
  | [], _ :: _, _, z => z.elim
  | _ :: _, [], _, z => z.elim
  | x :: xs, d :: ds, o, z => by
    rw [List.all_cons, Bool.and_eq_true] at o
    exact pds_cons (h.to o.1 z.1) (evs_to o.2 z.2)
theorem evs_lay {α : Type} [h : Ev α] : ∀ xs : List α, xs.all h.ok = true → PyData.canLayAll0 (xs.map h.pd) = true ∧ PyData.depthAll (xs.map h.pd) ≤ h.dn
  | [], _ => ⟨rfl, Nat.zero_le _⟩
  | x :: xs, o => by
    rw [List.all_cons, Bool.and_eq_true] at o
    obtain ⟨a, b⟩ := h.lay x o.1
    obtain ⟨c, d⟩ := evs_lay xs o.2
    simp only [List.map_cons, PyData.canLayAll0, PyData.depthAll, a, c]
    exact ⟨rfl, by omega⟩
theorem evs_ev {α : Type} [h : Ev α] : ∀ xs ys : List α, xs.all h.ok = true → ys.all h.ok = true → (PyData.eqvAll (xs.map h.pd) (ys.map h.pd) = true ↔ xs = ys)
  | [], [], _, _ => by simp [PyData.eqvAll]
  | [], _ :: _, _, _ => by simp [PyData.eqvAll]
  | _ :: _, [], _, _ => by simp [PyData.eqvAll]
  | x :: xs, y :: ys, o, p => by
    rw [List.all_cons, Bool.and_eq_true] at o p
    simp only [List.map_cons, PyData.eqvAll, Bool.and_eq_true, List.cons.injEq]
    rw [h.ev _ _ o.1 p.1, evs_ev _ _ o.2 p.2]
instance {α : Type} [h : Ev α] : Ev (List α) where
  dec := by
    letI := h.dec
    exact inferInstance
  pd xs := .list (xs.map h.pd)
  dn := h.dn + 1
  ok xs := xs.all h.ok
  to {x d S} o r := by
    obtain ⟨a, ds, rfl, e, z⟩ := r
    exact pd_ref e (evs_to o z)
  lay xs o := by
    obtain ⟨a, b⟩ := evs_lay xs o
    simp only [PyData.canLay0, PyData.depth]
    exact ⟨a, by omega⟩
  ev x y o p := by
    simp only [PyData.eqv]
    exact evs_ev x y o p
/-! ### rows of unlike things -/
class Rw (ρ : Type) where
  ow : ρ → List (D → HP)
  rs : ρ → List (D → HP)
  n : Nat
  ln : ∀ x, (ow x).length = n
  ln' : ∀ x, (rs x).length = n
  up : ∀ x, ∀ r ∈ rs x, ∀ d h h', Le h h' → r d h → r d h'
  ord : ∀ x (i : Nat) (r r' : D → HP), (ow x)[i]? = some r → (rs x)[i]? = some r' → ∀ d h h', Le h h' → r d h → r' d h'
instance : Rw Unit where
  ow _ := []
  rs _ := []
  n := 0
  ln _ := rfl
  ln' _ := rfl
  up _ r m := by cases m
  ord _ i r r' e := by cases e
instance {α ρ : Type} [Rp α] [h : Rw ρ] : Rw (α × ρ) where
  ow x := own x.1 :: h.ow x.2
  rs x := rd x.1 :: h.rs x.2
  n := h.n + 1
  ln x := by rw [List.length_cons, h.ln]
  ln' x := by rw [List.length_cons, h.ln']
  up x r m := by
    rcases List.mem_cons.mp m with e | m
    · subst e; exact fun d h h' l z => Rp.rd_up l z
    · exact h.up x.2 r m
  ord x i r r' e e' := by
    cases i with
    | zero =>
      cases e
      cases e'
      exact fun d h h' l z => Rp.rd_up l (Rp.own_rd z)
    | succ i => exact h.ord x.2 i r r' e e'
/-- a list of unlike things -/
structure Hl (ρ : Type) where
  r : ρ
/-- a tuple of unlike things that stand in the heap -/
structure Ht (ρ : Type) where
  r : ρ
instance {ρ : Type} [h : Rw ρ] : Rp (Hl ρ) where
  own x d k := ∃ a ds, d = .ref a ∧ Sep [Ls a ds, Pts (h.ow x.r) ds] k
  rd x d k := ∃ a ds, d = .ref a ∧ k a = some (.lst ds) ∧ Ats (h.rs x.r) ds k
  own_up l := fun ⟨a, ds, e, z⟩ => ⟨a, ds, e, z.le l⟩
  rd_up l := fun ⟨a, ds, e, x, y⟩ => ⟨a, ds, e, l _ _ x, Ats.up (h.up _) l y⟩
  own_rd := fun ⟨a, ds, e, z⟩ => ⟨a, ds, e, z.get, by
    obtain ⟨h1, h2, _, _, l2, _, h3, h4, _, l3, _, p, _⟩ := z
    exact Ats.up (h.up _) (l3.trans l2) (pts_ats (by rw [h.ln, h.ln']) (h.ord _) p)⟩
instance {ρ : Type} [h : Rw ρ] : Rp (Ht ρ) where
  own x d k := ∃ ds, d = .tup ds ∧ Pts (h.ow x.r) ds k
  rd x d k := ∃ ds, d = .tup ds ∧ Ats (h.rs x.r) ds k
  own_up l := fun ⟨ds, e, z⟩ => ⟨ds, e, z.up l⟩
  rd_up l := fun ⟨ds, e, z⟩ => ⟨ds, e, Ats.up (h.up _) l z⟩
  own_rd := fun ⟨ds, e, z⟩ => ⟨ds, e, pts_ats (by rw [h.ln, h.ln']) (h.ord _) z⟩
/-- == of rows -/
class Er (ρ : Type) extends Rw ρ where
  dec : DecidableEq ρ
  pds : ρ → List PyData
  dn : Nat
  ok : ρ → Bool
  to : ∀ {x : ρ} {ds : List D} {S : Store}, ok x = true → Ats (rs x) ds S → Pds S ds (pds x)
  lay : ∀ x : ρ, ok x = true → PyData.canLayAll0 (pds x) = true ∧ PyData.depthAll (pds x) ≤ dn
  ev : ∀ x y : ρ, ok x = true → ok y = true → (PyData.eqvAll (pds x) (pds y) = true ↔ x = y)
instance : Er Unit where
  dec := inferInstance
  pds _ := []
  dn := 0
  ok _ := true
  to {x ds S} _ z := by
    cases ds with
    | nil => exact pds_nil
    | cons => exact z.elim
  lay x _ := ⟨rfl, Nat.le_refl _⟩
  ev x y _ _ := ⟨fun _ => rfl, fun _ => rfl⟩
instance {α ρ : Type} [h : Ev α] [k : Er ρ] : Er (α × ρ) where
  dec := by
    letI := h.dec
    letI := k.dec
    exact inferInstance
  pds x := h.pd x.1 :: k.pds x.2
  dn := max h.dn k.dn
  ok x := h.ok x.1 && k.ok x.2
  to {x ds S} o z := by
    rw [Bool.and_eq_true] at o
    cases ds with
    | nil => exact z.elim
    | cons d ds => exact pds_cons (h.to o.1 z.1) (k.to o.2 z.2)
  lay x o := by
    rw [Bool.and_eq_true] at o
    obtain ⟨a, b⟩ := h.lay x.1 o.1
    obtain ⟨c, d⟩ := k.lay x.2 o.2
    simp only [PyData.canLayAll0, PyData.depthAll, a, c]
    exact ⟨rfl, by omega⟩
  ev x y o p := by
    rw [Bool.and_eq_true] at o p
    cases x
    cases y
    simp only [PyData.eqvAll, Bool.and_eq_true, Prod.mk.injEq]
    rw [h.ev _ _ o.1 p.1, k.ev _ _ o.2 p.2]
instance {ρ : Type} [h : Er ρ] : Ev (Hl ρ) where
  dec := fun x y => by
    letI := h.dec
    exact decidable_of_iff (x.r = y.r) ⟨fun e => by cases x; cases y; cases e; rfl, fun e => by rw [e]⟩
  pd x := .list (h.pds x.r)
  dn := h.dn + 1
  ok x := h.ok x.r
  to {x d S} o r := by
    obtain ⟨a, ds, rfl, e, z⟩ := r
    exact pd_ref e (h.to o z)
  lay x o := by
    obtain ⟨a, b⟩ := h.lay x.r o
    simp only [PyData.canLay0, PyData.depth]
    exact ⟨a, by omega⟩
  ev x y o p := by
    simp only [PyData.eqv]
    rw [h.ev _ _ o p]
    exact ⟨fun e => by cases x; cases y; cases e; rfl, fun e => by rw [e]⟩
instance {ρ : Type} [h : Er ρ] : Ev (Ht ρ) where
  dec := fun x y => by
    letI := h.dec
    exact decidable_of_iff (x.r = y.r) ⟨fun e => by cases x; cases y; cases e; rfl, fun e => by rw [e]⟩
  pd x := .tuple (h.pds x.r)
  dn := h.dn + 1
  ok x := h.ok x.r
  to {x d S} o r := by
    obtain ⟨ds, rfl, z⟩ := r
    exact pd_tup (h.to o z)
  lay x o := by
    obtain ⟨a, b⟩ := h.lay x.r o
    simp only [PyData.canLay0, PyData.depth]
    exact ⟨a, by omega⟩
  ev x y o p := by
    simp only [PyData.eqv]
    rw [h.ev _ _ o p]
    exact ⟨fun e => by cases x; cases y; cases e; rfl, fun e => by rw [e]⟩
/-- where a row holds what -/
structure RowAt (ρ α : Type) [Rw ρ] [Rp α] (i : Nat) where
  get : ρ → α
  at_ : ∀ x, (Rw.rs x)[i]? = some (rd (get x))
def RowAt.z {α ρ : Type} [Rp α] [Rw ρ] : RowAt (α × ρ) α 0 := ⟨fun x => x.1, fun x => rfl⟩
def RowAt.s {α β ρ : Type} [Rp α] [Rp β] [Rw ρ] {i : Nat} (h : RowAt ρ α i) : RowAt (β × ρ) α (i + 1) := ⟨fun x => h.get x.2, fun x => h.at_ x.2⟩
section
variable {W : Wo} {Γ : Cx}
def RAw {ρ : Type} [Rw ρ] (W : Wo) (Γ : Cx) (es : Exs) (o : Option ρ) : Prop := ∀ v, o = some v → ∀ env L S Q X, env.length = Γ.length → Sep (Rel Γ env ++ keep W.S0 :: L) S →
  (∀ ds S', Le S S' → New (Pts (Rw.ow v) ds) S S' → Q ds S') → W.Es es env S Q X
theorem RAw.nil : RAw W Γ .nil (some ()) := fun v ev env L S Q X hl hs q => q [] S .refl ⟨fun _ => none, trivial, (fun _ _ z => by cases z), fun _ => .inr rfl⟩
theorem RAw.cons {α ρ : Type} [Rp α] [Rw ρ] {e : Ex} {es : Exs} {oa : Option α} {o : Option ρ} (ha : VE W Γ e oa) (h : RAw W Γ es o) : RAw W Γ (.cons e es) (oa.bind fun x => o.bind fun xs => some (x, xs)) := fun v ev env L S Q X hl hs q => by
  obtain ⟨x, ea, ev⟩ := bind_some' ev
  obtain ⟨xs, eo, ev⟩ := bind_some' ev
  cases ev
  refine ha x ea env L S _ X hl hs fun d S1 l1 n1 => h xs eo env L S1 _ X hl (hs.le l1) fun ds S2 l2 n2 => q (d :: ds) S2 (l1.trans l2) ?_
  obtain ⟨k, z, l, dj⟩ := n1.two l1 n2 l2
  exact ⟨k, pts_sep.mpr z, l, dj⟩
theorem VE.hl {ρ : Type} [h : Rw ρ] (hn : h.n ≤ 1000) {es : Exs} {o : Option ρ} (he : RAw W Γ es o) : VE W Γ (.lst es) (o.bind fun v => some (⟨v⟩ : Hl ρ)) := fun v ev env L S Q X hl hs q => by
  obtain ⟨y, eo, ev⟩ := bind_some' ev
  cases ev
  refine he _ eo env L S _ X hl hs fun ds S2 l2 n => ⟨sz (by
    obtain ⟨k, a, _⟩ := n
    rw [← a.len, h.ln]
    exact hn), fun p hp => q _ _ (l2.trans (.upd hp)) ?_⟩
  obtain ⟨k, z, l, dj⟩ := n.cell l2 hp
  exact ⟨k, ⟨p, ds, rfl, z⟩, l, dj⟩
theorem VE.ht {ρ : Type} [h : Rw ρ] (hn : h.n ≤ 1000) {es : Exs} {o : Option ρ} (he : RAw W Γ es o) : VE W Γ (.tup es) (o.bind fun v => some (⟨v⟩ : Ht ρ)) := fun v ev env L S Q X hl hs q => by
  obtain ⟨y, eo, ev⟩ := bind_some' ev
  cases ev
  refine he _ eo env L S _ X hl hs fun ds S2 l2 n => ⟨sz (by
    obtain ⟨k, a, _⟩ := n
    rw [← a.len, h.ln]
    exact hn), q _ _ l2 ?_⟩
  obtain ⟨k, z, l, dj⟩ := n
  exact ⟨k, ⟨ds, rfl, z⟩, l, dj⟩
/-- a row of which some things are given away -/
def RAx {ρ : Type} [Rw ρ] (W : Wo) (Γ : Cx) (es : Exs) (o : Option ρ) (Γ' : Cx) : Prop := ∀ v, o = some v → ∀ env L S Q X, env.length = Γ.length → Sep (Rel Γ env ++ keep W.S0 :: L) S →
  (∀ ds S', env.length = Γ'.length → Sep (Pts (Rw.ow v) ds :: (Rel Γ' env ++ keep W.S0 :: L)) S' → Q ds S') → W.Es es env S Q X
theorem RAx.nil : RAx W Γ .nil (some ()) Γ := fun v ev env L S Q X hl hs q => q [] S hl ⟨fun _ => none, S, fun _ => .inl rfl, (fun _ _ z => by cases z), .refl, trivial, hs⟩
theorem RAx.fold_ {α ρ : Type} [Rp α] [Rw ρ] {x : α} {xs : ρ} {d : D} {ds : List D} {A : List HP} {b : HP} {L : List HP} {S : Store} (z : Sep (Pts (Rw.ow xs) ds :: (A ++ b :: own x d :: L)) S) : Sep (Pts (Rw.ow ((x, xs) : α × ρ)) (d :: ds) :: (A ++ b :: L)) S := by
  have p : (Pts (Rw.ow xs) ds :: (A ++ b :: own x d :: L)).Perm ([own x d, Pts (Rw.ow xs) ds] ++ (A ++ b :: L)) :=
    ((((List.Perm.swap _ _ _).append_left A).trans (List.perm_middle (a := own x d) (l₁ := A) (l₂ := b :: L))).cons _).trans (List.Perm.swap _ _ _)
  exact (z.perm p).fold.imp fun k z => pts_sep.mpr z
theorem RAx.cons {α ρ : Type} [Rp α] [Rw ρ] {e : Ex} {es : Exs} {oa : Option α} {o : Option ρ} {Γ' : Cx} (ha : VE W Γ e oa) (h : RAx W Γ es o Γ') : RAx W Γ (.cons e es) (oa.bind fun x => o.bind fun xs => some (x, xs)) Γ' := fun v ev env L S Q X hl hs q => by
  obtain ⟨x, ea, ev⟩ := bind_some' ev
  obtain ⟨xs, eo, ev⟩ := bind_some' ev
  cases ev
  refine ha x ea env L S _ X hl hs fun d S1 l1 n1 => ?_
  have s1 : Sep (own x d :: (Rel Γ env ++ keep W.S0 :: L)) S1 := n1.sep l1 hs
  have s2 : Sep (Rel Γ env ++ keep W.S0 :: own x d :: L) S1 := s1.perm ((List.perm_middle (a := own x d) (l₁ := Rel Γ env) (l₂ := keep W.S0 :: L)).symm.trans ((List.Perm.swap _ _ _).append_left _))
  exact h xs eo env (own x d :: L) S1 _ X hl s2 fun ds S2 hl2 hs2 => q (d :: ds) S2 hl2 (RAx.fold_ hs2)
theorem RAx.mv {α ρ : Type} [Rp α] [Rw ρ] {i : Nat} {x : α} {es : Exs} {o : Option ρ} {Γ' : Cx} (ei : Γ[i]? = some (some (own x))) (h : RAx W (Γ.set i none) es o Γ') : RAx W Γ (.cons (.var i) es) (o.bind fun xs => some (x, xs)) Γ' := fun v ev env L S Q X hl hs q => by
  obtain ⟨xs, eo, ev⟩ := bind_some' ev
  cases ev
  obtain ⟨d, ed, z⟩ := Rel.take ei hl hs
  have z : Sep (own x d :: (Rel (Γ.set i none) env ++ keep W.S0 :: L)) S := z
  have s2 : Sep (Rel (Γ.set i none) env ++ keep W.S0 :: own x d :: L) S := z.perm ((List.perm_middle (a := own x d) (l₁ := Rel (Γ.set i none) env) (l₂ := keep W.S0 :: L)).symm.trans ((List.Perm.swap _ _ _).append_left _))
  exact ⟨d, ed, h xs eo env (own x d :: L) S _ X (by rw [List.length_set]; exact hl) s2 fun ds S2 hl2 hs2 => q (d :: ds) S2 hl2 (RAx.fold_ hs2)⟩
theorem XE.hl {ρ : Type} [h : Rw ρ] (hn : h.n ≤ 1000) {es : Exs} {o : Option ρ} {Γ' : Cx} (he : RAx W Γ es o Γ') : XE W Γ (.lst es) (o.bind fun v => some ((⟨v⟩ : Hl ρ), ())) (fun _ => Γ') := fun v m ev env L S Q X hl hs q => by
  obtain ⟨y, eo, ev⟩ := bind_some' ev
  cases ev
  refine he _ eo env L S _ X hl hs fun ds S2 hl2 hs2 => ⟨sz (by
    obtain ⟨k, _, _, _, _, a, _⟩ := hs2
    rw [← a.len, h.ln]
    exact hn), fun p hp => q _ _ hl2 ?_⟩
  have z := hs2.new (c := .lst ds) hp
  have z : Sep ([Cl p (.lst ds), Pts (Rw.ow y) ds] ++ (Rel Γ' env ++ keep W.S0 :: L)) (S2.upd p (.lst ds)) := z
  exact z.fold.imp fun k z => ⟨p, ds, rfl, z⟩
theorem XE.ht {ρ : Type} [h : Rw ρ] (hn : h.n ≤ 1000) {es : Exs} {o : Option ρ} {Γ' : Cx} (he : RAx W Γ es o Γ') : XE W Γ (.tup es) (o.bind fun v => some ((⟨v⟩ : Ht ρ), ())) (fun _ => Γ') := fun v m ev env L S Q X hl hs q => by
  obtain ⟨y, eo, ev⟩ := bind_some' ev
  cases ev
  refine he _ eo env L S _ X hl hs fun ds S2 hl2 hs2 => ⟨sz (by
    obtain ⟨k, _, _, _, _, a, _⟩ := hs2
    rw [← a.len, h.ln]
    exact hn), q _ _ hl2 (hs2.imp fun k z => ⟨ds, rfl, z⟩)⟩
end
end SW
/-! J, part Zf: walks that change the items; a def that changes what is made for it. -/
namespace SW
open PySem L2
open Rp (own rd)
open Pl (enc)
/-- how an item stands in the slots while it is walked over -/
def Itm (α M2 : Type) [Rp α] (tg : Tg) (Γ0 : Cx) (Γb : D → α → M2 → Cx) (get : α → M2) (set : α → M2 → α) : Prop :=
  ∀ d x env L S, env.length = Γ0.length → Sep (own x d :: (Rel Γ0 env ++ L)) S → ∃ e env', asgT tg d env = some env' ∧ env'.length = (Γb e x (get x)).length ∧ Sep (Rel (Γb e x (get x)) env' ++ L) S ∧
    ∀ m env2 S2 L2, env2.length = (Γb e x m).length → Sep (Rel (Γb e x m) env2 ++ L2) S2 → env2.length = Γ0.length ∧ Sep (own (set x m) d :: (Rel Γ0 env2 ++ L2)) S2
theorem Itm.nm {α : Type} [Rp α] {v : Nat} {Γ0 : Cx} (hv : v < Γ0.length) (hn : Γ0.set v none = Γ0) : Itm α α (.nm v) Γ0 (fun e _ m => updC Γ0 [(v, some (pin e m))]) (fun x => x) (fun _ m => m) := fun d x env L S hl hs => by
  refine ⟨d, _, rfl, by show _ = (Γ0.set v _).length; rw [List.length_set, List.length_set]; exact hl, ?_, fun m env2 S2 L2 hl2 hs2 => ?_⟩
  · exact Rel.asg (r := pin d x) hl (hs.imp fun k z => ⟨rfl, z⟩)
  · have hl2 : env2.length = (Γ0.set v (some (pin d m))).length := hl2
    have hs2 : Sep (Rel (Γ0.set v (some (pin d m))) env2 ++ L2) S2 := hs2
    rw [List.length_set] at hl2
    obtain ⟨d', ed, z⟩ := Rel.take (r := pin d m) (List.getElem?_set_self hv) (by rw [List.length_set]; exact hl2) hs2
    rw [List.set_set, hn] at z
    exact ⟨hl2, z.imp fun k ⟨e, w⟩ => by rw [← e]; exact w⟩
theorem Itm.p2 {α β : Type} [Pl α] [Rp β] {u v : Nat} {Γ0 : Cx} (hu : u < Γ0.length) (hv : v < Γ0.length) (huv : u ≠ v) (hn : Γ0.set u none = Γ0) (hn2 : Γ0.set v none = Γ0) :
    Itm (P2 α β) β (.tup (.cons (.nm u) (.cons (.nm v) .nil))) Γ0 (fun e x m => updC Γ0 [(u, some (own x.a)), (v, some (pin e m))]) (fun x => x.b) (fun x m => ⟨x.a, m⟩) := fun d x env L S hl hs => by
  obtain ⟨k1, k2, dj, l1, l2, ⟨ds, e, z⟩, t0⟩ := hs
  subst e
  match ds, z with
  | [d1, d2], z =>
    obtain ⟨h1', h2', d3, m1, m2, o1, h3, h4, d4, m3, m4, p2, _⟩ := pts_sep.mp z
    obtain ⟨h5, h6, d5, m5, m6, o2, _⟩ := pts_sep.mp p2
    have s1 : Sep (Sep [own x.a d1, own x.b d2] :: (Rel Γ0 env ++ L)) S := ⟨k1, k2, dj, l1, l2, ⟨h1', h2', d3, m1, m2, o1, h3, h4, d4, m3, m4, Rp.own_up m5 o2, trivial⟩, t0⟩
    have s2 : Sep (own x.a d1 :: own x.b d2 :: (Rel Γ0 env ++ L)) S := s1.flat
    have ex := sep_plE s2
    have s3 : Sep (own x.a d1 :: (Rel Γ0 env ++ (own x.b d2 :: L))) S := s2.under fun S z => z.perm (List.perm_middle (a := own x.b d2) (l₁ := Rel Γ0 env) (l₂ := L)).symm
    have s4 := Rel.asg (i := u) (r := own x.a) hl s3
    have s5 : Sep (own x.b d2 :: (Rel (Γ0.set u (some (own x.a))) (env.set u (some d1)) ++ L)) S := s4.perm (List.perm_middle (a := own x.b d2) (l₁ := Rel (Γ0.set u (some (own x.a))) (env.set u (some d1))) (l₂ := L))
    have s6 := Rel.asg (i := v) (r := pin d2 x.b) (by rw [List.length_set, List.length_set]; exact hl) (s5.imp fun k z => (⟨rfl, z⟩ : pin d2 x.b d2 k))
    refine ⟨d2, (env.set u (some d1)).set v (some d2), rfl, by show _ = ((Γ0.set u _).set v _).length; simp only [List.length_set]; exact hl, s6, fun m env2 S2 L2 hl2 hs2 => ?_⟩
    have hl2 : env2.length = ((Γ0.set u (some (own x.a))).set v (some (pin d2 m))).length := hl2
    have hs2 : Sep (Rel ((Γ0.set u (some (own x.a))).set v (some (pin d2 m))) env2 ++ L2) S2 := hs2
    simp only [List.length_set] at hl2
    obtain ⟨d', ed, z⟩ := Rel.take (r := pin d2 m) (List.getElem?_set_self (by rw [List.length_set]; exact hv)) (by simp only [List.length_set]; exact hl2) hs2
    rw [List.set_set, List.set_comm _ _ huv, hn2] at z
    have z1 : Sep (pin d2 m d' :: (Rel (Γ0.set u (some (own x.a))) env2 ++ L2)) S2 := z
    have z2 : Sep (Rel (Γ0.set u (some (own x.a))) env2 ++ (pin d2 m d' :: L2)) S2 := z1.perm (List.perm_middle (a := pin d2 m d') (l₁ := Rel (Γ0.set u (some (own x.a))) env2) (l₂ := L2)).symm
    obtain ⟨d6, ed6, z3⟩ := Rel.take (r := own x.a) (List.getElem?_set_self hu) (by rw [List.length_set]; exact hl2) z2
    rw [List.set_set, hn] at z3
    have e6 := sep_plE z3
    have z4 : Sep (pin d2 m d' :: (Rel Γ0 env2 ++ L2)) S2 := z3.tail.perm (List.perm_middle (a := pin d2 m d') (l₁ := Rel Γ0 env2) (l₂ := L2))
    refine ⟨hl2, z4.imp fun k ⟨e, w⟩ => ⟨[d1, d2], rfl, ?_⟩⟩
    rw [e] at w
    exact ⟨fun _ => none, k, fun _ => .inl rfl, (fun _ _ z => by cases z), .refl, Pl.own_iff.mpr ex, k, fun _ => none, fun _ => .inr rfl, .refl, (fun _ _ z => by cases z), w, trivial⟩
section
variable {M C B ρ Θ : Type} {W : Wo} {p : Po M C B ρ Θ} {Γ : Cx} {rest : Sms}
end
section
variable {W : Wo} {Γ : Cx}
end
section
variable {W : Wo} {M : Type} {N : M → Cx} {m : M}
/-- what is handed to a maker, some of it drawn -/
def XG {τ : Type} (W : Wo) (N : M → Cx) (m : M) (es : Exs) (o : Option (τ × M)) (rs : τ → List (D → HP)) : Prop := ∀ v m', o = some (v, m') → ∀ env L S Q X, env.length = (N m).length → Sep (Rel (N m) env ++ keep W.S0 :: L) S →
  (∀ ds S', env.length = (N m').length → Sep (Rel (N m') env ++ keep W.S0 :: L) S' → Ats (rs v) ds W.S0 → (∀ r ∈ rs v, ∀ d h h', Le h h' → r d h → r d h') → Q ds S') → W.Es es env S Q X
theorem XG.nil : XG W N m .nil (some ((), m)) (fun _ => []) := fun v m' ev env L S Q X hl hs q => by
  cases ev
  exact q [] S hl hs trivial (fun _ h => by cases h)
theorem XG.val {α τ : Type} [Pl α] {e : Ex} {es : Exs} {oa : Option (α × M)} {o : M → Option (τ × M)} {rs : τ → List (D → HP)} (ha : XN W N m e oa) (h : ∀ m1, XG W N m1 es (o m1) rs) : XG W N m (.cons e es) (oa.bind fun p => (o p.2).bind fun q => some ((p.1, q.1), q.2)) (fun v => rd v.1 :: rs v.2) := fun v m' ev env L S Q X hl hs q => by
  obtain ⟨⟨x, m1⟩, ea, ev⟩ := bind_some' ev
  obtain ⟨⟨y, m2⟩, eb, ev⟩ := bind_some' ev
  cases ev
  refine ha x m1 ea env L S _ X hl hs fun d1 S1 hl1 hs1 => ?_
  have e1 := sep_plE hs1
  subst e1
  exact h m1 y m2 eb env L S1 _ X hl1 hs1.tail fun ds S2 hl2 hs2 a up => q (enc x :: ds) S2 hl2 hs2 ⟨Pl.rd_iff.mpr rfl, a⟩ fun r z => by
    rcases List.mem_cons.mp z with e | z
    · rw [e]; exact fun d h h' l w => Rp.rd_up l w
    · exact up r z
theorem XG.keep {α τ : Type} [Rp α] {e : Ex} {es : Exs} {oa : Option α} {o : Option (τ × M)} {rs : τ → List (D → HP)} (ha : KE W (N m) e oa) (h : XG W N m es o rs) : XG W N m (.cons e es) (oa.bind fun x => o.bind fun q => some ((x, q.1), q.2)) (fun v => rd v.1 :: rs v.2) := fun v m' ev env L S Q X hl hs q => by
  obtain ⟨x, ea, ev⟩ := bind_some' ev
  obtain ⟨⟨y, m2⟩, eb, ev⟩ := bind_some' ev
  cases ev
  refine ha x ea env L S _ X hl hs fun d1 S1 l1 r1 => ?_
  exact h y m2 eb env L S1 _ X hl (hs.le l1) fun ds S2 hl2 hs2 a up => q (d1 :: ds) S2 hl2 hs2 ⟨r1, a⟩ fun r z => by
    rcases List.mem_cons.mp z with e | z
    · rw [e]; exact fun d h h' l w => Rp.rd_up l w
    · exact up r z
end
section
variable {W : Wo} {Γ : Cx}
end
end SW
/-! J, part Zg: == of pairs in the heap; list(range(..)); a list that something else is put into, and forgotten. -/
namespace SW
open PySem L2
open Rp (own rd)
open Pl (enc)
instance {α β : Type} [h : Ev α] [k : Ev β] : Ev (P2 α β) where
  dec := fun x y => by
    letI := h.dec
    letI := k.dec
    exact decidable_of_iff (x.a = y.a ∧ x.b = y.b) ⟨fun e => by cases x; cases y; cases e.1; cases e.2; rfl, fun e => by rw [e]; exact ⟨rfl, rfl⟩⟩
  pd x := .tuple [h.pd x.a, k.pd x.b]
  dn := max h.dn k.dn + 1
  ok x := h.ok x.a && k.ok x.b
  to {x d S} o r := by
    rw [Bool.and_eq_true] at o
    obtain ⟨ds, rfl, z⟩ := r
    match ds, z with
    | [d1, d2], z => exact pd_tup (pds_cons (h.to o.1 z.1) (pds_cons (k.to o.2 z.2.1) pds_nil))
  lay x o := by
    rw [Bool.and_eq_true] at o
    obtain ⟨a, b⟩ := h.lay x.a o.1
    obtain ⟨c, d⟩ := k.lay x.b o.2
    simp only [PyData.canLay0, PyData.canLayAll0, PyData.depth, PyData.depthAll, a, c]
    exact ⟨rfl, by omega⟩
  ev x y o p := by
    rw [Bool.and_eq_true] at o p
    simp only [PyData.eqv, PyData.eqvAll, Bool.and_eq_true, Bool.and_true]
    rw [h.ev _ _ o.1 p.1, k.ev _ _ o.2 p.2]
    exact ⟨fun e => by cases x; cases y; cases e.1; cases e.2; rfl, fun e => by rw [e]; exact ⟨rfl, rfl⟩⟩
section
variable {W : Wo} {Γ : Cx}
theorem VE.lrg {a b : Ex} {oa ob : Option Int} (ha : RE W Γ a oa) (hb : RE W Γ b ob) : VE W Γ (.lrg a b) (oa.bind fun x => ob.bind fun y => ask (small x ∧ small y ∧ (y - x).toNat ≤ 16777216) (some (rngI x y))) := fun v ev env L S Q X hl hs q => by
  obtain ⟨x, ea, ev⟩ := bind_some' ev
  obtain ⟨y, eb, ev⟩ := bind_some' ev
  obtain ⟨p, ev⟩ := ask_some ev
  cases ev
  refine ha.one ea hl hs fun d1 S1 l1 r1 hs1 => hb.one eb hl hs1 fun d2 S2 l2 r2 _ => ?_
  cases r1
  cases r2
  refine ⟨x, y, rfl, rfl, p.1, p.2.1, p.2.2, fun p hp => ?_⟩
  rw [rng_enc]
  exact q _ _ ((l1.trans l2).trans (.upd hp)) ((New.lst hp).trans (l1.trans l2))
end
section
variable {M C B ρ Θ : Type} {W : Wo} {p : Po M C B ρ Θ} {Γ : Cx} {rest : Sms}
end
end SW
/-! J, part Zh: a list so many times. -/
namespace SW
open PySem L2
open Rp (own rd)
open Pl (enc)
section
variable {W : Wo} {Γ : Cx}
end
end SW
/-! J, part Zi: indices of places that are computed; a def that changes its second argument at a place. -/
namespace SW
open PySem L2
open Rp (own rd)
open Pl (enc)
section
variable {W : Wo} {Γ : Cx}
theorem CEO.ge {a b : Ex} {oa ob : Option Int} (ha : CEO W Γ a oa) (hb : CEO W Γ b ob) : CEO W Γ (.cmp .ge a b) (oa.bind fun x => ob.bind fun y => some (decide (y ≤ x))) := fun v ev env L S hl hs Q X q => by
  obtain ⟨x, ea, ev⟩ := bind_some' ev
  obtain ⟨y, eb, ev⟩ := bind_some' ev
  cases ev
  exact ha x ea env L S hl hs _ X (hb y eb env L S hl hs _ X q)
theorem CEO.fdiv {a b : Ex} {oa ob : Option Int} (ha : CEO W Γ a oa) (hb : CEO W Γ b ob) : CEO W Γ (.bin .fdiv a b) (oa.bind fun x => ob.bind fun y => divO x y) := fun v ev env L S hl hs Q X q => by
  obtain ⟨x, ea, ev⟩ := bind_some' ev
  obtain ⟨y, eb, ev⟩ := bind_some' ev
  obtain ⟨p, ev⟩ := ask_some ev
  cases ev
  exact ha x ea env L S hl hs _ X (hb y eb env L S hl hs _ X ⟨p, q⟩)
end
section
variable {W : Wo}
/-- what an expression changes at a place is a part of the state -/
theorem XN.up {M α β : Type} [Rp β] {N : M → Cx} {m : M} {e : Ex} {o : Option (β × α)} {set : α → Cx} (F : α → M) (h : XE W (N m) e o set) (hs : ∀ y, set y = N (F y)) : XN W N m e (o.bind fun q => some (q.1, F q.2)) := fun v m' ev env L S Q X hl hsp q => by
  obtain ⟨⟨w, y⟩, eo, ev⟩ := bind_some' ev
  cases ev
  refine h w y eo env L S Q X hl hsp fun d S' hl' hs' => ?_
  have hl' : env.length = (set y).length := hl'
  have hs' : Sep (own w d :: (Rel (set y) env ++ keep W.S0 :: L)) S' := hs'
  rw [hs] at hl' hs'
  exact q d S' hl' hs'
end
end SW
/-! J, part Zj: setdefault, walks over d.get(k, []). -/
namespace SW
open PySem L2
open Rp (own rd)
open Pl (enc)
theorem lp_id {κ α : Type} [DecidableEq κ] {k : κ} {v : α} : ∀ {l : List (κ × α)}, lg l k = some v → lp l k v = l
  | [], e => by cases e
  | (q, u) :: r, e => by
    have e : (if q = k then some u else lg r k) = some v := e
    show (if q = k then (q, v) :: r else (q, u) :: lp r k v) = _
    by_cases c : q = k
    · rw [if_pos c] at e ⊢
      cases e
      rfl
    · rw [if_neg c] at e ⊢
      rw [lp_id e]
/-- what stands behind d.setdefault(k, v) -/
def sdf {κ α : Type} [DecidableEq κ] (x : Dct κ α) (k : κ) (v : α) : Dct κ α := dp x k ((dg x k).getD v)
theorem sdf_some {κ α : Type} [DecidableEq κ] {x : Dct κ α} {k : κ} {v w : α} (h : dg x k = some w) : sdf x k v = x := by
  unfold sdf
  rw [h]
  exact lp_id h
theorem sdf_none {κ α : Type} [DecidableEq κ] {x : Dct κ α} {k : κ} {v : α} (h : dg x k = none) : sdf x k v = dp x k v := by
  unfold sdf
  rw [h]
  rfl
section
variable {W : Wo} {Γ : Cx}
/-- d.get(k, []), walked -/
theorem IT.getDL {κ α : Type} [Ky κ] [DecidableEq κ] [Rp α] {a e : Ex} {ox : Option (Dct κ (List α))} {ok : Option κ} (hx : KE W Γ a ox) (hk : RE W Γ e ok) : IT W Γ (.seq (.bmt a .get (.cons e (.cons (.lst .nil) .nil)))) (ox.bind fun x => ok.bind fun k => some ((dg x k).getD [])) := fun xs ex env L S K X hl hs q => by
  obtain ⟨x, eo, ex⟩ := bind_some' ex
  obtain ⟨k, ek, ex⟩ := bind_some' ex
  cases ex
  refine hx x eo env L S _ X hl hs fun d S1 l1 r => ?_
  have hs1 := hs.le l1
  have r0 := r
  obtain ⟨nd, b, ds, e1, c, rr⟩ := r
  subst e1
  have cg := (keep_le hs1) _ _ c
  refine ⟨.dic, by simp only [kdM, cg], rfl, hk k ek env L S1 _ X hl hs1 fun d1 S2 l2 r1 => ?_⟩
  cases Pl.rd_iff.mp r1
  have hs2 := hs1.le l2
  refine ⟨by decide, fun p hp => ?_⟩
  have l3 : Le S2 (S2.upd p (.lst [])) := Le.upd hp
  have hs3 := hs2.le l3
  have cg3 := (keep_le hs3) _ _ c
  obtain ⟨g1, g2⟩ := dg_get (k := k) rr
  refine ⟨kds x ds, cg3, Ky.key k, ?_⟩
  cases eg : dg x k with
  | some v =>
    obtain ⟨d3, e3, r3⟩ := g1 v eg
    obtain ⟨p3, ds3, rfl, c3, rr3⟩ := r3
    rw [e3]
    rw [show (dg x k).getD [] = v by rw [eg]; rfl] at q
    refine ⟨ds3, (keep_le hs3) _ _ c3, q ds3 _ W.S0 _ ((l1.trans l2).trans l3) .refl rr3 (fun S5 l5 => l5 _ _ c3) hs3⟩
  | none =>
    rw [g2 eg]
    rw [show (dg x k).getD [] = [] by rw [eg]; rfl] at q
    refine ⟨[], Store.upd_same, ?_⟩
    have n : New (own ([] : List α) (.ref p)) S2 (S2.upd p (.lst [])) := New.one hp fun k e => ⟨p, [], rfl, ⟨k, fun _ => none, fun _ => .inr rfl, .refl, (fun _ _ z => by cases z), e, ⟨fun _ => none, fun _ => none, fun _ => .inr rfl, .refl, .refl, trivial, trivial⟩⟩⟩
    have hsN := n.sep l3 hs2
    obtain ⟨S6, l6, a6, hs6⟩ := keep_new (fun h h' l z => Rp.own_up l z) hsN
    obtain ⟨p6, ds6, e6, c6, r6⟩ := own_cell a6
    cases e6
    have : ds6 = [] := by
      cases ds6 with
      | nil => rfl
      | cons => exact r6.elim
    subst this
    exact q [] _ S6 _ ((l1.trans l2).trans l3) l6 r6 (fun S7 l7 => l7 _ _ c6) hs6
end
theorem lg_lpS {κ α : Type} [DecidableEq κ] (k : κ) (v : α) : ∀ l : List (κ × α), lg (lp l k v) k = some v
  | [] => if_pos rfl
  | (q, u) :: r => by
    show lg (if q = k then (q, v) :: r else (q, u) :: lp r k v) k = some v
    by_cases c : q = k
    · rw [if_pos c]; exact if_pos c
    · rw [if_neg c]; exact (if_neg c).trans (lg_lpS k v r)
theorem get_put {k : D} (h : eqK k k = true) {d : D} : ∀ (l : List (D × D)), getK k (putK k d l) = some d
  | [] => by
    show (if eqK k k = true then some d else none) = some d
    rw [if_pos h]
  | (q, u) :: r => by
    rw [putK_cons]
    by_cases c : eqK q k = true
    · rw [if_pos c]
      show (if eqK q k = true then some d else _) = some d
      rw [if_pos c]
    · rw [if_neg c]
      show (if eqK q k = true then some u else getK k (putK k d r)) = some d
      rw [if_neg c, get_put h r]
section
variable {M C B ρ Θ : Type} {W : Wo} {p : Po M C B ρ Θ} {Γ : Cx} {rest : Sms}
/-- d.setdefault(k, []).append(e) -/
theorem J.sdApp {κ α : Type} [Ky κ] [DecidableEq κ] [Rp α] {a kx e : Ex} {x : Dct κ (List α)} {set : Dct κ (List α) → Cx} {ok : Option κ} {ov : Option α} {kk : κ → α → Option (Out M C B ρ Θ)} (hp : PL W Γ a x set) (hk : RE W Γ kx ok) (he : ∀ k, VE W (set (sdf x k [])) e ov) (h : ∀ k v, J W p (set (dp (sdf x k []) k ((dg x k).getD [] ++ [v]))) rest (kk k v)) :
    J W p Γ (.cons (.ex (.bmt (.bmt a .setdefault (.cons kx (.cons (.lst .nil) .nil))) .append (.cons e .nil))) rest) (ok.bind fun k => ov.bind fun v => ask (x.l.length < sizeLine ∧ ((dg x k).getD []).length < sizeLine) (kk k v)) := fun r er env L S K hl hs okk => by
  obtain ⟨k, ek, er⟩ := bind_some' er
  obtain ⟨v, ev, er⟩ := bind_some' er
  obtain ⟨⟨lx, ly⟩, er⟩ := ask_some er
  obtain ⟨d, V, q1, q2, q3⟩ := hp env L S hl hs
  have fin : ∀ (S3 : Store) (b : Addr) (ds' : List D) (dr : D), (sdf x k []).keys.Nodup → Sep (Dc b (kds (sdf x k []) ds') :: Pts ((sdf x k []).l.map fun p => own p.2) ds' :: V :: keep W.S0 :: L) S3 → d = .ref b → getK (enc k) (kds (sdf x k []) ds') = some dr →
      ∃ kd, kdM S3 dr = some kd ∧ (bmtId kd .append).isSome = true ∧ wpEs W.P (run W.P W.T W.j) (runM W.P W.T W.j) (.cons e .nil) env S3 (fun ds S2 => wpBmt kd .append dr ds S2 fun _ S' => wpSs W.P (run W.P W.T W.j) (runM W.P W.T W.j) rest env S' K) (K.ex env) := fun S3 b ds' dr nd s3 ed eg => by
    subst ed
    obtain ⟨b1, b2⟩ := q3 (sdf x k [])
    have s3o : Sep (own (sdf x k []) (.ref b) :: V :: keep W.S0 :: L) S3 := by
      have z : Sep ([Dc b (kds (sdf x k []) ds'), Pts ((sdf x k []).l.map fun p => own p.2) ds'] ++ (V :: keep W.S0 :: L)) S3 := s3
      exact z.fold.imp fun k' z => ⟨nd, b, ds', rfl, z⟩
    have hg : dg (sdf x k []) k = some ((dg x k).getD []) := by
      unfold sdf dg dp
      show lg (lp x.l k ((lg x.l k).getD [])) k = _
      exact lg_lpS k _ _
    obtain ⟨k1, k2, dj, n1, n2, cD, k3, k4, dj2, n3, n4, pt, tl⟩ := s3
    obtain ⟨d', V', g1, g2, g3⟩ := lg_pts hg pt
    have e1 : d' = dr := by
      have g1 : getK (enc k) (kds (sdf x k []) ds') = some d' := g1
      rw [g1] at eg
      exact Option.some.inj eg
    subst e1
    obtain ⟨j1, j2, jd, m1, m2, ow, vt⟩ := g2
    obtain ⟨pa, dsl, e2, z⟩ := ow
    subst e2
    have s4 : Sep (Dc b (kds (sdf x k []) ds') :: Sep [Sep [Ls pa dsl, Pts (((dg x k).getD []).map own) dsl], V'] :: V :: keep W.S0 :: L) S3 := ⟨k1, k2, dj, n1, n2, cD, k3, k4, dj2, n3, n4, ⟨j1, j2, jd, m1, m2, z, vt⟩, tl⟩
    have s5 : Sep (Sep [Ls pa dsl, Pts (((dg x k).getD []).map own) dsl] :: V' :: Dc b (kds (sdf x k []) ds') :: V :: keep W.S0 :: L) S3 := by
      have y : Sep ([Sep [Ls pa dsl, Pts (((dg x k).getD []).map own) dsl], V'] ++ (Dc b (kds (sdf x k []) ds') :: V :: keep W.S0 :: L)) S3 := (s4.swap).flat
      exact y
    have s6 : Sep (Ls pa dsl :: Pts (((dg x k).getD []).map own) dsl :: V' :: Dc b (kds (sdf x k []) ds') :: V :: keep W.S0 :: L) S3 := s5.flat
    have cg := s6.get
    refine ⟨.lst, by simp only [kdM, cg], rfl, he k v ev env L S3 _ _ (hl.trans b1.symm) (b2 _ _ s3o) fun d2 S4 l n => ?_⟩
    have q4 : Sep (own v d2 :: Ls pa dsl :: Pts (((dg x k).getD []).map own) dsl :: V' :: Dc b (kds (sdf x k []) ds') :: V :: keep W.S0 :: L) S4 := n.sep l s6
    have q5 : Sep (Ls pa dsl :: Pts (((dg x k).getD []).map own) dsl :: own v d2 :: V' :: Dc b (kds (sdf x k []) ds') :: V :: keep W.S0 :: L) S4 := (q4.swap).under fun S z => z.swap
    obtain ⟨_, _, _, _, _, _, _, _, _, _, _, pt2, _⟩ := q5
    have lds := pt2.len
    rw [List.length_map] at lds
    have q5 : Sep (Ls pa dsl :: Pts (((dg x k).getD []).map own) dsl :: own v d2 :: V' :: Dc b (kds (sdf x k []) ds') :: V :: keep W.S0 :: L) S4 := (q4.swap).under fun S z => z.swap
    refine ⟨dsl, q5.get, by rw [← lds]; exact ly, ?_⟩
    have q6 : Sep (Ls pa (dsl ++ [d2]) :: Pts (((dg x k).getD []).map own) dsl :: own v d2 :: V' :: Dc b (kds (sdf x k []) ds') :: V :: keep W.S0 :: L) (S4.upd pa (.lst (dsl ++ [d2]))) := q5.put
    have q7 : Sep ([Ls pa (dsl ++ [d2]), Pts ((((dg x k).getD []) ++ [v]).map own) (dsl ++ [d2])] ++ (V' :: Dc b (kds (sdf x k []) ds') :: V :: keep W.S0 :: L)) (S4.upd pa (.lst (dsl ++ [d2]))) := q6.under fun S z => pts_snoc z
    have q8 : Sep ([own ((dg x k).getD [] ++ [v]) (.ref pa), V'] ++ (Dc b (kds (sdf x k []) ds') :: V :: keep W.S0 :: L)) (S4.upd pa (.lst (dsl ++ [d2]))) := q7.fold.imp fun k z => ⟨pa, _, rfl, z⟩
    have q9 : Sep (Pts ((lp (sdf x k []).l k ((dg x k).getD [] ++ [v])).map fun p => own p.2) ds' :: Dc b (kds (sdf x k []) ds') :: V :: keep W.S0 :: L) (S4.upd pa (.lst (dsl ++ [d2]))) := q8.fold.imp fun k' z => g3 _ k' z
    have q10 : Sep ([Dc b (kds (sdf x k []) ds'), Pts ((lp (sdf x k []).l k ((dg x k).getD [] ++ [v])).map fun p => own p.2) ds'] ++ (V :: keep W.S0 :: L)) (S4.upd pa (.lst (dsl ++ [d2]))) := q9.swap
    have ee : kds (dp (sdf x k []) k ((dg x k).getD [] ++ [v])) ds' = kds (sdf x k []) ds' := by
      unfold kds
      rw [kz, kz]
      show List.zip (((lp (sdf x k []).l k ((dg x k).getD [] ++ [v])).map fun p => p.1).map enc) ds' = _
      rw [lp_same hg]
    have q11 : Sep (own (dp (sdf x k []) k ((dg x k).getD [] ++ [v])) (.ref b) :: V :: keep W.S0 :: L) (S4.upd pa (.lst (dsl ++ [d2]))) := q10.fold.imp fun k' z => ⟨lp_nodup nd, b, ds', rfl, by rw [ee]; exact z⟩
    obtain ⟨c1, c2⟩ := q3 (dp (sdf x k []) k ((dg x k).getD [] ++ [v]))
    exact h k v r er env L _ K (hl.trans c1.symm) (c2 _ _ q11) okk
  refine q1 _ _ ?_
  obtain ⟨h1, h2, dj, l1, l2, ⟨nd, b, ds, e1, z⟩, t⟩ := q2
  subst e1
  have cg := l1 _ _ z.get
  refine ⟨.dic, by simp only [kdM, cg], rfl, hk k ek env L S _ _ hl hs fun d1 S1 m1 r1 => ?_⟩
  cases Pl.rd_iff.mp r1
  refine ⟨by decide, fun pa hpa => ?_⟩
  have l3 : Le S1 (S1.upd pa (.lst [])) := Le.upd hpa
  have n : New (own ([] : List α) (.ref pa)) S1 (S1.upd pa (.lst [])) := New.one hpa fun k e => ⟨pa, [], rfl, ⟨k, fun _ => none, fun _ => .inr rfl, .refl, (fun _ _ z => by cases z), e, ⟨fun _ => none, fun _ => none, fun _ => .inr rfl, .refl, .refl, trivial, trivial⟩⟩⟩
  have q4 : Sep (Sep [Dc b (kds x ds), Pts (x.l.map fun p => own p.2) ds] :: V :: keep W.S0 :: L) S1 := Sep.le ⟨h1, h2, dj, l1, l2, z, t⟩ m1
  have q4 := n.sep l3 q4
  generalize S1.upd pa (.lst []) = S2 at *
  have q5 : Sep (Dc b (kds x ds) :: Pts (x.l.map fun p => own p.2) ds :: own ([] : List α) (.ref pa) :: V :: keep W.S0 :: L) S2 := by
    have y : Sep ([Dc b (kds x ds), Pts (x.l.map fun p => own p.2) ds] ++ (own ([] : List α) (.ref pa) :: V :: keep W.S0 :: L)) S2 := (q4.swap).flat
    exact y
  obtain ⟨_, _, _, _, _, pt, _⟩ := z.swap
  have lds := pt.len
  rw [List.length_map] at lds
  have lk : (kds x ds).length = x.l.length := by unfold kds; rw [List.length_zip, List.length_map, ← lds, Nat.min_self]
  have eg : Ats (x.l.map fun p => rd p.2) ds S2 := by
    obtain ⟨k1, k2, _, n1, n2, c, k3, k4, _, n3, _, pt, _⟩ := q5
    have e1 : (x.l.map fun p => rd p.2) = (x.l.map (·.2)).map rd := by rw [List.map_map]; rfl
    have e2 : (x.l.map fun p => own p.2) = (x.l.map (·.2)).map own := by rw [List.map_map]; rfl
    rw [e2] at pt
    rw [e1]
    exact ats_rd_up (n3.trans n2) (ats_own pt)
  obtain ⟨g1, g2⟩ := dg_get (k := k) eg
  refine ⟨kds x ds, q5.get, Ky.key k, by rw [lk]; exact lx, fun d' ed => ?_, fun ed => ?_⟩
  · cases eg2 : dg x k with
    | none => rw [g2 eg2] at ed; cases ed
    | some u =>
      have q6 : Sep (Dc b (kds x ds) :: Pts (x.l.map fun p => own p.2) ds :: V :: keep W.S0 :: L) S2 := q5.under fun S z => z.under fun S z => z.tail
      exact fin S2 b ds d' (by rw [sdf_some eg2]; exact nd) (by rw [sdf_some eg2]; exact q6) rfl (by rw [sdf_some eg2]; exact ed)
  · have eg2 : dg x k = none := by
      cases eg2 : dg x k with
      | none => rfl
      | some u =>
        obtain ⟨d3, e3, r3⟩ := g1 u eg2
        rw [e3] at ed
        cases ed
    have q6 : Sep (Dc b (putK (enc k) (.ref pa) (kds x ds)) :: Pts (x.l.map fun p => own p.2) ds :: own ([] : List α) (.ref pa) :: V :: keep W.S0 :: L) (S2.upd b (.dic (putK (enc k) (.ref pa) (kds x ds)))) := q5.put
    obtain ⟨k1, k2, dj, n1, n2, c, t⟩ := q6
    obtain ⟨ds', e1, e2⟩ := lp_pts (k := k) nd t
    have e1 : kds (dp x k []) ds' = putK (enc k) (.ref pa) (kds x ds) := e1
    have q7 : Sep (Dc b (kds (dp x k []) ds') :: Pts ((dp x k []).l.map fun p => own p.2) ds' :: V :: keep W.S0 :: L) (S2.upd b (.dic (putK (enc k) (.ref pa) (kds x ds)))) := by
      rw [e1]
      exact ⟨k1, k2, dj, n1, n2, c, e2⟩
    exact fin _ b ds' (.ref pa) (by rw [sdf_none eg2]; exact lp_nodup nd) (by rw [sdf_none eg2]; exact q7) rfl (by rw [sdf_none eg2, e1]; exact get_put (by rw [eqk_dec, decide_eq_true rfl]) _)
end
end SW
/-! J, part Zk: things that may be None, given away; the last one taken off. -/
namespace SW
open PySem L2
open Rp (own rd)
open Pl (enc)
theorem nn_lst {α : Type} [Rp α] : ∀ (x : List α) d S, rd x d S → isNon d = false := fun x d S r => by
  obtain ⟨a, ds, e, _⟩ := r
  rw [e]
  rfl
def popL {α : Type} (xs : List α) : Option (α × List α) := (xs[xs.length - 1]?).bind fun v => some (v, xs.eraseIdx (xs.length - 1))
section
variable {W : Wo} {Γ : Cx}
theorem VE.opN {α : Type} [Rp α] : VE W Γ (.cst .non) (some (⟨none⟩ : Op α)) := fun v ev env L S Q X hl hs q => by
  cases ev
  refine q .non S .refl ⟨fun _ => none, rfl, (fun _ _ z => by cases z), fun _ => .inr rfl⟩
theorem VE.opS {α : Type} [Rp α] {e : Ex} {o : Option α} (h : VE W Γ e o) : VE W Γ e (o.bind fun v => some (⟨some v⟩ : Op α)) := fun v ev env L S Q X hl hs q => by
  obtain ⟨w, ew, ev⟩ := bind_some' ev
  cases ev
  exact h w ew env L S Q X hl hs q
/-- d.get(k), d given away -/
theorem XE.getMv {κ α : Type} [Ky κ] [DecidableEq κ] [Rp α] {i : Nat} {x : Dct κ α} {e : Ex} {ok : Option κ} (ei : Γ[i]? = some (some (own x))) (hk : RE W Γ e ok) : XE W Γ (.bmt (.var i) .get (.cons e .nil)) (ok.bind fun k => some ((⟨dg x k⟩ : Op α), ())) (fun _ => Γ.set i none) := fun v m ev env L S Q X hl hs q => by
  obtain ⟨k, ek, ev⟩ := bind_some' ev
  cases ev
  obtain ⟨d, ed, z⟩ := Rel.take ei hl hs
  obtain ⟨h1, h2, dj, l1, l2, ⟨nd, b, ds, e1, y⟩, t⟩ := z
  subst e1
  have cg := l1 _ _ y.get
  refine ⟨_, ed, .dic, by simp only [kdM, cg], rfl, hk k ek env L S _ X hl hs fun d1 S1 m1 r1 => ?_⟩
  cases Pl.rd_iff.mp r1
  have q4 : Sep (Sep [Dc b (kds x ds), Pts (x.l.map fun p => own p.2) ds] :: (Rel (Γ.set i none) env ++ keep W.S0 :: L)) S1 := Sep.le ⟨h1, h2, dj, l1, l2, y, t⟩ m1
  have q5 : Sep (Dc b (kds x ds) :: Pts (x.l.map fun p => own p.2) ds :: (Rel (Γ.set i none) env ++ keep W.S0 :: L)) S1 := q4.flat
  have q6 := q5.tail
  refine ⟨kds x ds, q5.get, Ky.key k, ?_⟩
  have hl' : env.length = (Γ.set i none).length := by rw [List.length_set]; exact hl
  cases eg : dg x k with
  | some u =>
    obtain ⟨k1, k2, kd, n1, n2, pt, kt⟩ := q6
    obtain ⟨d', V', g1, g2, g3⟩ := lg_pts eg pt
    have g1 : getK (enc k) (kds x ds) = some d' := g1
    rw [g1]
    rw [eg] at q
    obtain ⟨j1, j2, jd, o1, o2, ow, _⟩ := g2
    refine q d' S1 hl' ⟨k1, k2, kd, n1, n2, ?_, kt⟩
    exact Rp.own_up o1 ow
  | none =>
    have eg' : Ats (x.l.map fun p => rd p.2) ds S1 := by
      obtain ⟨k1, k2, _, n1, n2, pt, _⟩ := q6
      have e1 : (x.l.map fun p => rd p.2) = (x.l.map (·.2)).map rd := by rw [List.map_map]; rfl
      have e2 : (x.l.map fun p => own p.2) = (x.l.map (·.2)).map own := by rw [List.map_map]; rfl
      rw [e2] at pt
      rw [e1]
      exact ats_rd_up n1 (ats_own pt)
    rw [(dg_get (k := k) eg').2 eg]
    rw [eg] at q
    exact q .non S1 hl' (Sep.fact rfl q6.tail)
/-- a.pop() -/
theorem XE.pop0 {α : Type} [Rp α] {a : Ex} {xs : List α} {set : List α → Cx} (hp : PL W Γ a xs set) : XE W Γ (.bmt a .pop .nil) (popL xs) set := fun v m' ev env L S Q X hl hs q => by
  obtain ⟨w, ew, ev⟩ := bind_some' ev
  cases ev
  obtain ⟨d, V, q1, q2, q3⟩ := hp env L S hl hs
  refine q1 _ _ ?_
  obtain ⟨h1, h2, dj, l1, l2, ow, t⟩ := q2
  obtain ⟨b, ds, e1, z⟩ := ow
  subst e1
  have cg := l1 _ _ z.get
  refine ⟨.lst, by simp only [kdM, cg], rfl, ?_⟩
  have q4 : Sep (Sep [Ls b ds, Pts (xs.map own) ds] :: V :: keep W.S0 :: L) S := ⟨h1, h2, dj, l1, l2, z, t⟩
  have q5 : Sep (Ls b ds :: Pts (xs.map own) ds :: V :: keep W.S0 :: L) S := q4.flat
  obtain ⟨_, _, _, _, _, pt, _⟩ := z.swap
  have lds := pt.len
  rw [List.length_map] at lds
  have q6 : Sep (Ls b (ds.eraseIdx (xs.length - 1)) :: Pts (xs.map own) ds :: V :: keep W.S0 :: L) (S.upd b (.lst (ds.eraseIdx (xs.length - 1)))) := q5.put
  obtain ⟨k1, k2, kd, m1, m2, c1, kt⟩ := q6
  obtain ⟨dd, edd, kt⟩ := pts_erase ew kt
  have ed : ds.dropLast = ds.eraseIdx (xs.length - 1) := by
    rw [lds, List.eraseIdx_length_sub_one]
  refine ⟨ds, dd, q5.get, by rw [← lds]; exact edd, ?_⟩
  rw [ed]
  obtain ⟨b1, b2⟩ := q3 (xs.eraseIdx (xs.length - 1))
  refine q dd _ (hl.trans b1.symm) ?_
  have q7 : Sep (own v dd :: Ls b (ds.eraseIdx (xs.length - 1)) :: Pts ((xs.eraseIdx (xs.length - 1)).map own) (ds.eraseIdx (xs.length - 1)) :: V :: keep W.S0 :: L) (S.upd b (.lst (ds.eraseIdx (xs.length - 1)))) := Sep.swap ⟨k1, k2, kd, m1, m2, c1, kt⟩
  refine q7.under fun S z => b2 L S ?_
  have z : Sep ([Ls b (ds.eraseIdx (xs.length - 1)), Pts ((xs.eraseIdx (xs.length - 1)).map own) (ds.eraseIdx (xs.length - 1))] ++ (V :: keep W.S0 :: L)) S := z
  exact z.fold.imp fun k z => ⟨b, _, rfl, z⟩
end
section
variable {M C B ρ Θ : Type} {W : Wo} {p : Po M C B ρ Θ} {Γ : Cx} {rest : Sms}
/-- a thing that may be None is there -/
theorem J.unop {α : Type} [Rp α] {i : Nat} {v : Op α} {s : Sms} {k : α → Option (Out M C B ρ Θ)} (e : Γ[i]? = some (some (own v))) (h : ∀ x, J W p (Γ.set i (some (own x))) s (k x)) : J W p Γ s (v.o.bind k) := fun r er env L S K hl hs ok => by
  obtain ⟨x, ex, er⟩ := bind_some' er
  obtain ⟨d, ed, z⟩ := Rel.take e hl hs
  have z : Sep (own x d :: (Rel (Γ.set i none) env ++ keep W.S0 :: L)) S := z.imp fun k z => by
    have z : (match v.o with | none => d = .non | some x => own x d k) := z
    rw [ex] at z
    exact z
  have q := Rel.put (r := own x) (by rw [List.length_set]; exact (List.getElem?_eq_some_iff.mp e).1) ed z
  rw [List.set_set] at q
  exact h x r er env L S K (by rw [List.length_set]; exact hl) q ok
end
end SW
/-! J, part Zl: insert, extend. -/
namespace SW
open PySem L2
open Rp (own rd)
open Pl (enc)
theorem pts_ins {α : Type} [Rp α] {v : α} {d : D} : ∀ {xs : List α} {ds : List D} {j : Nat} {L : List HP} {S : Store}, Sep (Pts (xs.map own) ds :: own v d :: L) S → Sep (Pts ((xs.take j ++ [v] ++ xs.drop j).map own) (ds.take j ++ [d] ++ ds.drop j) :: L) S
  | xs, ds, 0, L, S, h => by
    show Sep (Pts ((v :: xs).map own) (d :: ds) :: L) S
    have h3 : Sep ([own v d, Pts (xs.map own) ds] ++ L) S := h.swap
    exact h3.fold.imp fun k z => pts_sep.mpr z
  | [], [], j + 1, L, S, h => by
    show Sep (Pts [own v] [d] :: L) S
    exact h.tail.imp fun k z => ⟨k, fun _ => none, fun _ => .inr rfl, .refl, (fun _ _ z => by cases z), z, trivial⟩
  | [], _ :: _, _ + 1, _, _, h => by obtain ⟨_, _, _, _, _, z, _⟩ := h; exact z.elim
  | _ :: _, [], _ + 1, _, _, h => by obtain ⟨_, _, _, _, _, z, _⟩ := h; exact z.elim
  | x :: xs, e :: ds, j + 1, L, S, h => by
    have h2 : Sep (own x e :: Pts (xs.map own) ds :: own v d :: L) S := by
      have z : Sep (Sep [own x e, Pts (xs.map own) ds] :: own v d :: L) S := h.imp fun k z => pts_sep.mp z
      exact z.flat
    have h3 : Sep (own x e :: Pts ((xs.take j ++ [v] ++ xs.drop j).map own) (ds.take j ++ [d] ++ ds.drop j) :: L) S := h2.under fun S z => pts_ins z
    have h3 : Sep ([own x e, Pts ((xs.take j ++ [v] ++ xs.drop j).map own) (ds.take j ++ [d] ++ ds.drop j)] ++ L) S := h3
    exact h3.fold.imp fun k z => pts_sep.mpr z
def insA {α : Type} (xs : List α) (i : Nat) (v : α) : List α := xs.take i ++ [v] ++ xs.drop i
section
variable {M C B ρ Θ : Type} {W : Wo} {p : Po M C B ρ Θ} {Γ : Cx} {rest : Sms} {M1 : Type} {N : M1 → Cx}
/-- x.insert(i, e), where i changes other things, e is plain -/
theorem J.insX {α : Type} [Pl α] {i : Nat} {e1 e2 : Ex} {x0 : List α} {s0 : List α → Cx} {xs : M1 → List α} {set : M1 → List α → Cx} {o : Option (Int × M1)} {ov : M1 → Option α} {k : Int → α → M1 → Option (Out M C B ρ Θ)} (hp0 : PL W Γ (.var i) x0 s0) (he : XE W Γ e1 o N) (hv : ∀ m, RE W (N m) e2 (ov m)) (hp : ∀ m, PL W (N m) (.var i) (xs m) (set m)) (h : ∀ q v m, J W p (set m (insA (xs m) q.toNat v)) rest (k q v m)) :
    J W p Γ (.cons (.ex (.bmt (.var i) .insert (.cons e1 (.cons e2 .nil)))) rest) (o.bind fun q => (ov q.2).bind fun v => ask ((xs q.2).length < sizeLine ∧ 0 ≤ q.1 ∧ q.1 < 2 ^ 63) (k q.1 v q.2)) := fun r er env L S K hl hs ok => by
  obtain ⟨⟨q, m⟩, ev, er⟩ := bind_some' er
  obtain ⟨v, evv, er⟩ := bind_some' er
  obtain ⟨⟨lx, q0, q1'⟩, er⟩ := ask_some er
  obtain ⟨d, V, q1, q2, _⟩ := hp0 env L S hl hs
  obtain ⟨d', ed, ee⟩ := q1 (fun x _ => x = d) noX rfl
  subst ee
  refine ⟨d', ed, ?_⟩
  obtain ⟨h1, h2, dj, l1, l2, ⟨b, ds, e1, z⟩, t⟩ := q2
  subst e1
  have cg := l1 _ _ z.get
  refine ⟨.lst, by simp only [kdM, cg], rfl, he q m ev env L S _ _ hl hs fun d2 S2 hl2 hs2 => ?_⟩
  have e2 := sep_plE hs2
  subst e2
  refine hv m v evv env L S2 _ _ hl2 hs2.tail fun d5 S5 l5 r5 => ?_
  cases Pl.rd_iff.mp r5
  have hs5 := hs2.tail.le l5
  obtain ⟨d3, V, q1, q2, q3⟩ := hp m env L S5 hl2 hs5
  obtain ⟨d4, ed4, ee⟩ := q1 (fun x _ => x = d3) noX rfl
  subst ee
  rw [ed] at ed4
  cases ed4
  obtain ⟨h1, h2, dj, l1, l2, ⟨b, ds, e1, z⟩, t⟩ := q2
  cases e1
  have q5 : Sep ([Ls b ds, Pts ((xs m).map own) ds] ++ (V :: keep W.S0 :: L)) S5 := Sep.flat ⟨h1, h2, dj, l1, l2, z, t⟩
  have q5 : Sep (Ls b ds :: Pts ((xs m).map own) ds :: own v (enc v) :: V :: keep W.S0 :: L) S5 := Sep.under (fun S z => Sep.under (fun S z => sep_pl rfl z) z) q5
  obtain ⟨_, _, _, _, _, pt, _⟩ := z.swap
  have lds := pt.len
  rw [List.length_map] at lds
  refine ⟨ds, q5.get, by rw [← lds]; exact lx, q0, q1', ?_⟩
  have q6 : Sep (Ls b (ds.take q.toNat ++ [enc v] ++ ds.drop q.toNat) :: Pts ((xs m).map own) ds :: own v (enc v) :: V :: keep W.S0 :: L) (S5.upd b (.lst (ds.take q.toNat ++ [enc v] ++ ds.drop q.toNat))) := q5.put
  have q7 : Sep ([Ls b (ds.take q.toNat ++ [enc v] ++ ds.drop q.toNat), Pts ((insA (xs m) q.toNat v).map own) (ds.take q.toNat ++ [enc v] ++ ds.drop q.toNat)] ++ (V :: keep W.S0 :: L)) (S5.upd b (.lst (ds.take q.toNat ++ [enc v] ++ ds.drop q.toNat))) := q6.under fun S z => pts_ins z
  have q8 : Sep (own (insA (xs m) q.toNat v) (.ref b) :: V :: keep W.S0 :: L) (S5.upd b (.lst (ds.take q.toNat ++ [enc v] ++ ds.drop q.toNat))) := q7.fold.imp fun k z => ⟨b, _, rfl, z⟩
  obtain ⟨b1, b2⟩ := q3 (insA (xs m) q.toNat v)
  exact h q v m r er env L _ K (hl2.trans b1.symm) (b2 _ _ q8) ok
end
end SW
namespace SW
open PySem L2
open Rp (own rd)
open Pl (enc)
local macro_rules | `(tactic| walk_at "jn") => `(tactic| try dsimp only [Sms.app, updC, List.set_cons_zero, List.set_cons_succ, pins, nons, roC, List.map_cons, List.map_nil, List.cons_append, List.nil_append, List.replicate_succ, List.replicate_zero, Nat.reduceSub])
abbrev Lt := (T7 (T2 Int Int) (T2 Int Int) Int Int Int (Option (T2 Int Int)) (Option (T2 Int Int)))
abbrev Tie := (T3 Int Int Int)
abbrev Net := (T2 (Tl Int) (Tl (T3 Int Int Int)))
noncomputable def F_way_between (a0 : (Dct Int (List (T2 Int Int)))) (a1 : Int) (a2 : Int) : {o : Option (Out Unit Unit Unit (Op (List Int)) Unit) // FnP P0 T 1 ⟨3, 8, b_way_between⟩ [rd a0, rd a1, rd a2] (ρ := (Op (List Int))) (fun _ => own) o} := ⟨_, fun j hj S0 => show J _ _ [some (ro S0 a0), some (ro S0 a1), some (ro S0 a2), none, none, none, none, none] _ _ from
 (by walk_at "jn"; exact (J.asg (VE.dic1 (κ := Int) (α := (List Int)) (RE.var rfl (Ent.ro .refl)) (VE.lst0 (α := Int))) fun v1 =>
 (by walk_at "jn"; exact (J.asg (VE.lst (LDs.cons (RE.var rfl (Ent.ro .refl)) (LDs.nil (α := Int)))) fun v2 =>
 (by walk_at "jn"; exact (J.whileU fuelW (fun (m : (Dct Int (List Int)) × (List Int)) => [(3, some (own m.1)), (4, some (own m.2)), (5, none), (6, none), (7, none)]) (_, _) (FgU.same rfl (FgU.same rfl (FgU.non (FgU.non (FgU.non FgU.nil))))) (fun m3 => (by walk_at "jn"; exact (RE.neL (α := Int) (by decide) (RE.var rfl Ent.own) ((VE.lst0 (α := Int))).re))) (fun m3 =>
 (by walk_at "jn"; exact (J.asgX (XE.pop0 (PL.var rfl)) fun v5 m6 =>
 (by walk_at "jn"; exact (J.forU (fun (m : (List Int) × (Dct Int (List Int))) => [(4, some (own m.1)), (3, some (own m.2)), (6, none), (7, none)]) (_, _) (FgU.same rfl (FgU.same rfl (FgU.non (FgU.non FgU.nil)))) (IT.getDL (KE.var rfl .refl) (RE.var rfl Ent.own)) (fun S1 l1 m7 x8 => (AsT.pl (AsT.t2 AsT.nm AsT.nm))) (fun S1 l1 m7 x8 =>
 (by walk_at "jn"; exact (J.ite (RE.notinD (RE.var rfl Ent.own) (RE.var rfl Ent.own))
 (by walk_at "jn"; exact (J.setD (PL.var rfl) (RE.var rfl Ent.own) (VE.addL (RE.dix (RE.var rfl Ent.own) (RE.var rfl Ent.own)) ((VE.lst (LDs.cons (RE.var rfl Ent.own) (LDs.nil (α := Int))))).re) fun q10 v9 =>
 (by walk_at "jn"; exact (J.app (PL.var rfl) ((RE.var rfl Ent.own)).ve fun v11 =>
 (by walk_at "jn"; exact (J.nilAt2 (m := (_, _)) 4 rfl rfl 3 rfl rfl (fgS (fgS (fgS (fgS (fgS (fgS (fgN (fgN fg0))))))))))))))
 (by walk_at "jn"; exact (J.nil (m := (_, _)) (fgS (fgS (fgS (fgS (fgS (fgS (fgN (fgN fg0))))))))))))) fun m12 =>
 (by walk_at "jn"; exact (J.nilAt2 (m := (_, _)) 4 rfl rfl 3 rfl rfl (fgS (fgS (fgS (fgS (fgS (fgN (fgN (fgN fg0))))))))))))))) fun m4 =>
 (by walk_at "jn"; exact (J.retX (θ := fun m => ()) rfl (XE.getMv rfl (RE.var rfl (Ent.ro .refl))) fun _ => (fgN (fgN (fgN (fgN (fgN (fgN (fgN (fgN fg0))))))))))))))))⟩
theorem S_way_between (a0 : (Dct Int (List (T2 Int Int)))) (a1 : Int) (a2 : Int) : SpV P0 T 1 f_way_between [rd a0, rd a1, rd a2] ((F_way_between a0 a1 a2).1.bind Out.pv) := SpV.fn rfl (by decide) rfl (F_way_between a0 a1 a2).2
noncomputable def F_ring_of (a0 : (T2 (Tl Int) (Tl (T3 Int Int Int)))) (a1 : (List Int)) : {o : Option (Out Unit Unit Unit (Op (List Int)) Unit) // FnP P0 T 2 ⟨2, 8, b_ring_of⟩ [rd a0, rd a1] (ρ := (Op (List Int))) (fun _ => own) o} := ⟨_, fun j hj S0 => show J _ _ [some (ro S0 a0), some (ro S0 a1), none, none, none, none, none, none] _ _ from
 (by walk_at "jn"; exact (J.asg (VE.dic0 (κ := Int) (α := (List (T2 Int Int)))) fun v1 =>
 (by walk_at "jn"; exact (J.forU (fun (m : (Dct Int (List (T2 Int Int)))) => [(2, some (own m)), (3, none), (4, none), (5, none), (6, none), (7, none)]) _ (FgU.same rfl (FgU.non (FgU.non (FgU.non (FgU.non (FgU.non FgU.nil)))))) (IT.seqK (KE.var rfl .refl)) (fun S1 l1 m2 x3 => AsT.nm) (fun S1 l1 m2 x3 =>
 (by walk_at "jn"; exact (J.asgT (RE.tlix (RE.tix (i := 1) T2.b (fun _ => ⟨_, rfl, rfl⟩) (RE.var rfl (Ent.ro l1))) (RE.var rfl (Ent.ro .refl))) (fun _ => (AsT.t3 AsT.nm AsT.nm AsT.nm)) fun v4 =>
 (by walk_at "jn"; exact (J.asg (VE.call (RAs.cons (RE.var rfl Ent.own) (RAs.cons (RE.var rfl Ent.own) (RAs.cons (RE.var rfl Ent.own) RAs.nil))) (fun v => (S_way_between v.1 v.2.1 v.2.2.1)) (dj hj (by decide))) fun v5 =>
 (by walk_at "jn"; exact (J.ite (RE.opnN nn_lst (RE.var rfl Ent.own))
 (J.unop (i := 4) rfl fun x6 => (by walk_at "jn"; exact (J.retV (θ := ()) rfl (VE.opS (VE.addL (RE.var rfl Ent.own) ((VE.lst (LDs.cons (RE.var rfl (Ent.ro .refl)) (LDs.nil (α := Int))))).re)) (fgN (fgN (fgN (fgN (fgN (fgN (fgN (fgN fg0)))))))))))
 (by walk_at "jn"; exact (J.sdApp (PL.var rfl) (RE.var rfl Ent.own) (fun _ => ((RE.tp2 (RAs.cons (RE.var rfl (Ent.ro .refl)) (RAs.cons (RE.var rfl Ent.own) RAs.nil)))).ve) fun q8 v7 =>
 (by walk_at "jn"; exact (J.sdApp (PL.var rfl) (RE.var rfl Ent.own) (fun _ => ((RE.tp2 (RAs.cons (RE.var rfl (Ent.ro .refl)) (RAs.cons (RE.var rfl Ent.own) RAs.nil)))).ve) fun q10 v9 =>
 (by walk_at "jn"; exact (J.nil (m := _) (fgS (fgS (fgS (fgN (fgN (fgN (fgN (fgN fg0))))))))))))))))))))) fun m11 =>
 (by walk_at "jn"; exact (J.retV (θ := ()) rfl (VE.opN (α := (List Int))) (fgN (fgN (fgN (fgN (fgN (fgN (fgN (fgN fg0))))))))))))))⟩
theorem S_ring_of (a0 : (T2 (Tl Int) (Tl (T3 Int Int Int)))) (a1 : (List Int)) : SpV P0 T 2 f_ring_of [rd a0, rd a1] ((F_ring_of a0 a1).1.bind Out.pv) := SpV.fn rfl (by decide) rfl (F_ring_of a0 a1).2
noncomputable def F_is_within (a0 : Int) (a1 : Int) (a2 : Int) : {o : Option (Out Unit Unit Unit Bool Unit) // FnP P0 T 1 ⟨3, 3, b_is_within⟩ [rd a0, rd a1, rd a2] (ρ := Bool) (fun _ => own) o} := ⟨_, fun j hj S0 => show J _ _ [some (ro S0 a0), some (ro S0 a1), some (ro S0 a2)] _ _ from
 (by walk_at "jn"; exact (J.retV (θ := ()) rfl ((RE.an (RE.isi kd_int rfl (RE.var rfl (Ent.ro .refl))) (RE.an (RE.no (RE.isi kd_int rfl (RE.var rfl (Ent.ro .refl)))) (RE.lele (RE.var rfl (Ent.ro .refl)) (RE.var rfl (Ent.ro .refl)) (RE.var rfl (Ent.ro .refl)))))).ve (fgN (fgN (fgN fg0)))))⟩
theorem S_is_within (a0 : Int) (a1 : Int) (a2 : Int) : SpV P0 T 1 f_is_within [rd a0, rd a1, rd a2] ((F_is_within a0 a1 a2).1.bind Out.pv) := SpV.fn rfl (by decide) rfl (F_is_within a0 a1 a2).2
noncomputable def F_need_bridges (a0 : (List Int)) : {o : Option (Out Unit Unit Unit Unit Unit) // FnP P0 T 2 ⟨1, 3, b_need_bridges⟩ [rd a0] (ρ := Unit) (fun _ => own) o} := ⟨_, fun j hj S0 => show J _ _ [some (ro S0 a0), none, none] _ _ from
 (by walk_at "jn"; exact (J.ite (RE.or (RE.no (RE.isi kd_list rfl (RE.var rfl (Ent.ro .refl)))) (RE.no (RE.lele (RE.int 1) (RE.lenL (RE.var rfl (Ent.ro .refl))) (RE.int 10))))
 (by walk_at "jn"; exact (J.raise (θ := ()) (fgN (fgN (fgN fg0)))))
 (by walk_at "jn"; exact (J.forU (fun (m : Unit) => [(1, none), (2, none)]) () (FgU.non (FgU.non FgU.nil)) (IT.enuK (KE.var rfl .refl)) (fun S1 l1 m1 x2 => (AsT.pl (AsT.t2 AsT.nm AsT.nm))) (fun S1 l1 m1 x2 =>
 (by walk_at "jn"; exact (J.ite (RE.or (RE.no (RE.call (RAs.cons (RE.var rfl Ent.own) (RAs.cons (RE.int 0) (RAs.cons (RE.int 999) RAs.nil))) (fun v => (S_is_within v.1 v.2.1 v.2.2.1).r) (dj hj (by decide)))) (RE.inL (RE.var rfl Ent.own) ((VE.slcL (RE.var rfl (Ent.ro l1)) OE.no (OE.some (RE.var rfl Ent.own)))).ll))
 (by walk_at "jn"; exact (J.raise (θ := ()) (fgN (fgN (fgN fg0)))))
 (by walk_at "jn"; exact (J.nil (m := ()) (fgS (fgN (fgN fg0)))))))) fun m3 =>
 (by walk_at "jn"; exact (J.nil (m := ()) (fgN (fgN (fgN fg0)))))))))⟩
theorem S_need_bridges (a0 : (List Int)) : SpV P0 T 2 f_need_bridges [rd a0] ((F_need_bridges a0).1.bind Out.pvU) := SpV.fnU rfl (by decide) rfl (F_need_bridges a0).2
noncomputable def F_tie_of (a0 : (List Int)) (a1 : (T3 Int Int Int)) : {o : Option (Out Unit Unit Unit (T3 Int Int Int) Unit) // FnP P0 T 2 ⟨2, 3, b_tie_of⟩ [rd a0, rd a1] (ρ := (T3 Int Int Int)) (fun _ => own) o} := ⟨_, fun j hj S0 => show J _ _ [some (ro S0 a0), some (ro S0 a1), none] _ _ from
 (by walk_at "jn"; exact (J.ite (RE.or (RE.no (RE.isi kd_T3 rfl (RE.var rfl (Ent.ro .refl)))) (RE.or (RE.ne (α := Int) (RE.lenK 3 (fun _ => ⟨_, rfl, rfl⟩) (RE.var rfl (Ent.ro .refl))) (RE.int 3)) (RE.no (RE.call (RAs.cons (RE.tix (i := 2) T3.c (fun _ => ⟨_, rfl, rfl⟩) (RE.var rfl (Ent.ro .refl))) (RAs.cons (RE.int 1) (RAs.cons (RE.int 1000) RAs.nil))) (fun v => (S_is_within v.1 v.2.1 v.2.2.1).r) (dj hj (by decide))))))
 (by walk_at "jn"; exact (J.raise (θ := ()) (fgN (fgN (fgN fg0)))))
 (by walk_at "jn"; exact (J.forU (fun (m : Unit) => [(2, none)]) () (FgU.non FgU.nil) (IT.tl (RE.sl32 (RE.var rfl (Ent.ro .refl)) OE.no (OE.some (RE.int 2)) rfl rfl)) (fun S1 l1 m1 x2 => AsT.nm) (fun S1 l1 m1 x2 =>
 (by walk_at "jn"; exact (J.ite (RE.or (RE.no (RE.call (RAs.cons (RE.var rfl (Ent.ro .refl)) (RAs.cons (RE.int 0) (RAs.cons (RE.int 999) RAs.nil))) (fun v => (S_is_within v.1 v.2.1 v.2.2.1).r) (dj hj (by decide)))) (RE.notinL (RE.var rfl (Ent.ro .refl)) ((RE.var rfl (Ent.ro l1))).ll))
 (by walk_at "jn"; exact (J.raise (θ := ()) (fgN (fgN (fgN fg0)))))
 (by walk_at "jn"; exact (J.nil (m := ()) (fgS (fgS (fgN fg0)))))))) fun m3 =>
 (by walk_at "jn"; exact (J.ite (RE.eq (α := Int) (RE.tix (i := 0) T3.a (fun _ => ⟨_, rfl, rfl⟩) (RE.var rfl (Ent.ro .refl))) (RE.tix (i := 1) T3.b (fun _ => ⟨_, rfl, rfl⟩) (RE.var rfl (Ent.ro .refl))))
 (by walk_at "jn"; exact (J.raise (θ := ()) (fgN (fgN (fgN fg0)))))
 (by walk_at "jn"; exact (J.retV (θ := ()) rfl ((RE.tp3 (RAs.cons (RE.minT (RE.sl32 (RE.var rfl (Ent.ro .refl)) OE.no (OE.some (RE.int 2)) rfl rfl)) (RAs.cons (RE.maxT (RE.sl32 (RE.var rfl (Ent.ro .refl)) OE.no (OE.some (RE.int 2)) rfl rfl)) (RAs.cons (RE.tix (i := 2) T3.c (fun _ => ⟨_, rfl, rfl⟩) (RE.var rfl (Ent.ro .refl))) RAs.nil))))).ve (fgN (fgN (fgN fg0)))))))))))⟩
theorem S_tie_of (a0 : (List Int)) (a1 : (T3 Int Int Int)) : SpV P0 T 2 f_tie_of [rd a0, rd a1] ((F_tie_of a0 a1).1.bind Out.pv) := SpV.fn rfl (by decide) rfl (F_tie_of a0 a1).2
noncomputable def F_make_net (a0 : (List Int)) (a1 : (List (T3 Int Int Int))) : {o : Option (Out Unit Unit Unit (T2 (Tl Int) (Tl (T3 Int Int Int))) Unit) // FnP P0 T 3 ⟨2, 3, b_make_net⟩ [rd a0, rd a1] (ρ := (T2 (Tl Int) (Tl (T3 Int Int Int)))) (fun _ => own) o} := ⟨_, fun j hj S0 => show J _ _ [some (ro S0 a0), some (ro S0 a1), none] _ _ from
 (by walk_at "jn"; exact (J.exR (RE.call (RAs.cons (RE.var rfl (Ent.ro .refl)) RAs.nil) (fun v => (S_need_bridges v.1).r) (dj hj (by decide)))
 (by walk_at "jn"; exact (J.ite (RE.or (RE.no (RE.isi kd_list rfl (RE.var rfl (Ent.ro .refl)))) (RE.gt (RE.lenL (RE.var rfl (Ent.ro .refl))) (RE.int 16)))
 (by walk_at "jn"; exact (J.raise (θ := ()) (fgN (fgN (fgN fg0)))))
 (by walk_at "jn"; exact (J.retV (θ := ()) rfl ((RE.tp2 (RAs.cons (RE.tupL ((VE.sortL ((RE.var rfl (Ent.ro .refl))).ll)).ll) (RAs.cons (RE.tupL ((VE.comp (IT.seqK (KE.var rfl .refl)) (fun S1 l1 x1 => AsT.nm) (fun S1 l1 x1 => (RE.bl true)) (fun S1 l1 x1 => (RE.call (RAs.cons (RE.var rfl (Ent.ro l1)) (RAs.cons (RE.var rfl (Ent.ro .refl)) RAs.nil)) (fun v => (S_tie_of v.1 v.2.1).r) (dj hj (by decide)))))).ll) RAs.nil)))).ve (fgN (fgN (fgN fg0)))))))))⟩
theorem S_make_net (a0 : (List Int)) (a1 : (List (T3 Int Int Int))) : SpV P0 T 3 f_make_net [rd a0, rd a1] ((F_make_net a0 a1).1.bind Out.pv) := SpV.fn rfl (by decide) rfl (F_make_net a0 a1).2
noncomputable def F__law_row (a0 : Int) : {o : Option (Out Unit Unit Unit (List Int) Unit) // FnP P0 T 1 ⟨1, 1, b_law_row⟩ [rd a0] (ρ := (List Int)) (fun _ => own) o} := ⟨_, fun j hj S0 => show J _ _ [some (ro S0 a0)] _ _ from
 (by walk_at "jn"; exact (J.retV (θ := ()) rfl (VE.lst (LDs.cons (RE.var rfl (Ent.ro .refl)) (LDs.cons (RE.mod (RE.var rfl (Ent.ro .refl)) (RE.int 2147483587)) (LDs.nil (α := Int))))) (fgN fg0)))⟩
theorem S__law_row (a0 : Int) : SpV P0 T 1 f_law_row [rd a0] ((F__law_row a0).1.bind Out.pv) := SpV.fn rfl (by decide) rfl (F__law_row a0).2
noncomputable def F__law_take (a0 : (List Int)) (a1 : Int) : {o : Option (Out ((List Int)) ((List Int)) ((List Int)) Int ((List Int))) // FnJ (ρ := Int) P0 T 1 ⟨2, 3, b_law_take⟩ (fun S (θ : (List Int)) => [own θ, own a1]) a0 o} := ⟨_, fun j hj S0 ds hl => by
 obtain ⟨d0, d1, rfl⟩ := len2 hl
 exact
 (by walk_at "jn"; exact (J.ite (RE.gt (RE.lix (RE.var rfl Ent.pin) (RE.int 0)) (RE.pow (RE.int 10) (RE.int 18)))
 (by walk_at "jn"; exact (J.asgR (RE.mod (RE.lix (RE.var rfl Ent.pin) (RE.int 0)) (RE.var rfl Ent.pin)) fun v1 =>
 (by walk_at "jn"; exact (J.setL (PL.pin rfl) (RE.int 0) (RE.fdiv (RE.lix (RE.var rfl Ent.pin) (RE.int 0)) (RE.var rfl Ent.pin)) fun v2 q3 =>
 (by walk_at "jn"; exact (J.retV (θ := _) rfl ((RE.var rfl Ent.own)).ve (fgS (fgS (fgN fg0)))))))))
 (by walk_at "jn"; exact (J.setL (PL.pin rfl) (RE.int 1) (RE.mod (RE.add (RE.add (RE.mul (RE.lix (RE.var rfl Ent.pin) (RE.int 1)) (RE.lix (RE.var rfl Ent.pin) (RE.int 1))) (RE.mul (RE.int 69621) (RE.lix (RE.var rfl Ent.pin) (RE.int 1)))) (RE.int 12345)) (RE.int 2147483587)) fun v4 q5 =>
 (by walk_at "jn"; exact (J.retV (θ := _) rfl ((RE.mod (RE.fdiv (RE.lix (RE.var rfl Ent.pin) (RE.int 1)) (RE.int 8)) (RE.var rfl Ent.pin))).ve (fgS (fgS (fgN fg0)))))))))⟩
theorem S__law_take (a0 : (List Int)) (a1 : Int) : SpX P0 T 1 f_law_take (fun S (θ : (List Int)) => [own θ, own a1]) a0 ((F__law_take a0 a1).1.bind Out.val) := SpX.fn rfl (by decide) (fun _ _ => rfl) (F__law_take a0 a1).2
noncomputable def F__law_net (a0 : (List Int)) : {o : Option (Out ((List Int)) ((List Int)) ((List Int)) (T2 (Tl Int) (Tl (T3 Int Int Int))) ((List Int))) // FnJ (ρ := (T2 (Tl Int) (Tl (T3 Int Int Int)))) P0 T 4 ⟨1, 9, b_law_net⟩ (fun S (θ : (List Int)) => [own θ]) a0 o} := ⟨_, fun j hj S0 ds hl => by
 obtain ⟨d0, rfl⟩ := len1 hl
 exact
 (by walk_at "jn"; exact (J.asgX (XN.u (fun (m : (List Int)) => [(0, some (pin d0 m))]) _ (FgU.same rfl FgU.nil) (XN.bin bs_add (XN.r (RE.int 1)) fun _ => (XN.call (up := fun _ m (θ : (List Int)) => θ) (MA.mut rfl (MAN.val (XN.r (RE.int 6)) fun _ => MA.nil)) (fun (v : Int × Unit) m => S__law_take m v.1) (dj hj (by decide)) (fun _ _ => (Asm.pin rfl (Asm.val Asm.nil))) (fun _ _ _ => Dsm.cast (Dsm.pin (Dsm.val Dsm.nil) rfl) rfl)))) fun v1 m2 =>
 (by walk_at "jn"; exact (J.asgX (XN.u (fun (m : (List Int)) => [(0, some (pin d0 m))]) _ (FgU.same rfl FgU.nil) (XN.ix is_lix (XN.v (VE.lst (LDs.cons (RE.int 1) (LDs.cons (RE.int 3) (LDs.cons (RE.int 10) (LDs.cons (RE.int 100) (LDs.nil (α := Int)))))))) fun _ => (XN.call (up := fun _ m (θ : (List Int)) => θ) (MA.mut rfl (MAN.val (XN.r (RE.int 4)) fun _ => MA.nil)) (fun (v : Int × Unit) m => S__law_take m v.1) (dj hj (by decide)) (fun _ _ => (Asm.pin rfl (Asm.val Asm.nil))) (fun _ _ _ => Dsm.cast (Dsm.pin (Dsm.val Dsm.nil) rfl) rfl)))) fun v3 m4 =>
 (by walk_at "jn"; exact (J.asgX (XN.u (fun (m : (List Int)) => [(0, some (pin d0 m))]) _ (FgU.same rfl FgU.nil) (XN.comp (IT.rng1 (RE.var rfl Ent.own)) (fun _ => rfl) (fun S1 l1 m6 x7 => (XN.bin bs_add (XN.bin bs_mul (XN.r (RE.var rfl Ent.own)) fun _ => (XN.bin bs_add (XN.r (RE.var rfl (Ent.ro .refl))) fun _ => (XN.call (up := fun _ m (θ : (List Int)) => θ) (MA.mut rfl (MAN.val (XN.r (RE.int 2)) fun _ => MA.nil)) (fun (v : Int × Unit) m => S__law_take m v.1) (dj hj (by decide)) (fun _ _ => (Asm.pin rfl (Asm.val Asm.nil))) (fun _ _ _ => Dsm.cast (Dsm.pin (Dsm.val Dsm.nil) rfl) rfl)))) fun _ => (XN.r (RE.lix ((VE.lst (LDs.cons (RE.int 0) (LDs.cons (RE.int 7) (LDs.nil (α := Int)))))).re (RE.fdiv (RE.var rfl Ent.own) (RE.int 100)))))))) fun v5 m8 =>
 (by walk_at "jn"; exact (J.asg (VE.sset (RE.var rfl Ent.own)) fun v9 =>
 (by walk_at "jn"; exact (J.asg (VE.lst0 (α := (T3 Int Int Int))) fun v10 =>
 (by walk_at "jn"; exact (J.forXU (fun _ (m : (List Int) × (List (T3 Int Int Int))) => [(0, some (pin d0 m.1)), (4, some (own m.2)), (5, none), (6, none), (7, none), (8, none)]) (fun _ => (_, _)) (fun _ => (FgU.same rfl (FgU.same rfl (FgU.non (FgU.non (FgU.non (FgU.non FgU.nil))))))) (IX.rng1 (XN.u (fun (m : (List Int)) => [(0, some (pin d0 m))]) _ (FgU.same rfl FgU.nil) (XN.call (up := fun _ m (θ : (List Int)) => θ) (MA.mut rfl (MAN.val (XN.r (RE.int 10)) fun _ => MA.nil)) (fun (v : Int × Unit) m => S__law_take m v.1) (dj hj (by decide)) (fun _ _ => (Asm.pin rfl (Asm.val Asm.nil))) (fun _ _ _ => Dsm.cast (Dsm.pin (Dsm.val Dsm.nil) rfl) rfl)))) (fun _ S2 l2 m12 x13 => AsT.nm) (fun m11 S2 l2 m12 x13 =>
 (by walk_at "jn"; exact (J.asgX (XN.u (fun (m : (List Int)) => [(0, some (pin d0 m))]) _ (FgU.same rfl FgU.nil) (XN.rv is_lix (fun _ => rfl) (fun _ => Ent.own) (XN.call (up := fun _ m (θ : (List Int)) => θ) (MA.mut rfl (MAN.val (XN.r (RE.lenL (RE.var rfl Ent.own))) fun _ => MA.nil)) (fun (v : Int × Unit) m => S__law_take m v.1) (dj hj (by decide)) (fun _ _ => (Asm.pin rfl (Asm.val Asm.nil))) (fun _ _ _ => Dsm.cast (Dsm.pin (Dsm.val Dsm.nil) rfl) rfl)))) fun v14 m15 =>
 (by walk_at "jn"; exact (J.asgX (XN.u (fun (m : (List Int)) => [(0, some (pin d0 m))]) _ (FgU.same rfl FgU.nil) (XN.rv is_lix (fun _ => rfl) (fun _ => Ent.own) (XN.call (up := fun _ m (θ : (List Int)) => θ) (MA.mut rfl (MAN.val (XN.r (RE.lenL (RE.var rfl Ent.own))) fun _ => MA.nil)) (fun (v : Int × Unit) m => S__law_take m v.1) (dj hj (by decide)) (fun _ _ => (Asm.pin rfl (Asm.val Asm.nil))) (fun _ _ _ => Dsm.cast (Dsm.pin (Dsm.val Dsm.nil) rfl) rfl)))) fun v16 m17 =>
 (by walk_at "jn"; exact (J.asgX (XN.u (fun (m : (List Int)) => [(0, some (pin d0 m))]) _ (FgU.same rfl FgU.nil) (XN.ix is_lix (XN.lst (fun (v : Int × Int × Int × Int × Int × Unit) => [v.1, v.2.1, v.2.2.1, v.2.2.2.1, v.2.2.2.2.1]) (fun _ => rfl) (fun _ => Nat.le_of_ble_eq_true rfl) (XPN.cons (XN.r (RE.int 1)) fun _ => (XPN.cons (XN.r (RE.int 1)) fun _ => (XPN.cons (XN.r (RE.int 2)) fun _ => (XPN.cons (XN.bin bs_add (XN.r (RE.int 1)) fun _ => (XN.call (up := fun _ m (θ : (List Int)) => θ) (MA.mut rfl (MAN.val (XN.r (RE.int 4)) fun _ => MA.nil)) (fun (v : Int × Unit) m => S__law_take m v.1) (dj hj (by decide)) (fun _ _ => (Asm.pin rfl (Asm.val Asm.nil))) (fun _ _ _ => Dsm.cast (Dsm.pin (Dsm.val Dsm.nil) rfl) rfl))) fun _ => (XPN.cons (XN.bin bs_add (XN.r (RE.int 1)) fun _ => (XN.call (up := fun _ m (θ : (List Int)) => θ) (MA.mut rfl (MAN.val (XN.r (RE.int 1000)) fun _ => MA.nil)) (fun (v : Int × Unit) m => S__law_take m v.1) (dj hj (by decide)) (fun _ _ => (Asm.pin rfl (Asm.val Asm.nil))) (fun _ _ _ => Dsm.cast (Dsm.pin (Dsm.val Dsm.nil) rfl) rfl))) fun _ => XP.nil)))))) fun _ => (XN.call (up := fun _ m (θ : (List Int)) => θ) (MA.mut rfl (MAN.val (XN.r (RE.int 5)) fun _ => MA.nil)) (fun (v : Int × Unit) m => S__law_take m v.1) (dj hj (by decide)) (fun _ _ => (Asm.pin rfl (Asm.val Asm.nil))) (fun _ _ _ => Dsm.cast (Dsm.pin (Dsm.val Dsm.nil) rfl) rfl)))) fun v18 m19 =>
 (by walk_at "jn"; exact (J.ite (RE.ne (α := Int) (RE.var rfl Ent.own) (RE.var rfl Ent.own))
 (by walk_at "jn"; exact (J.app (PL.var rfl) ((RE.tp3 (RAs.cons (RE.var rfl Ent.own) (RAs.cons (RE.var rfl Ent.own) (RAs.cons (RE.var rfl Ent.own) RAs.nil))))).ve fun v20 =>
 (by walk_at "jn"; exact (J.nilP (m := (_, _)) 0 rfl rfl (J.nilAt (m := (_, _)) 4 rfl rfl (fgS (fgS (fgS (fgS (fgS (fgN (fgN (fgN (fgN fg0))))))))))))))
 (by walk_at "jn"; exact (J.nil (m := (_, _)) (fgS (fgS (fgS (fgS (fgS (fgN (fgN (fgN (fgN fg0)))))))))))))))))))) fun _ m21 =>
 (by walk_at "jn"; exact (J.forU (fun (m : (List Int) × (List (T3 Int Int Int))) => [(0, some (pin d0 m.1)), (4, some (own m.2)), (5, none)]) (_, _) (FgU.same rfl (FgU.same rfl (FgU.non FgU.nil))) (IT.rng2 (RE.int 1) (RE.lenL (RE.var rfl Ent.own))) (fun S3 l3 m22 x23 => AsT.nm) (fun S3 l3 m22 x23 =>
 (by walk_at "jn"; exact (J.iteX (XN.u (fun (m : (List Int)) => [(0, some (pin d0 m))]) _ (FgU.same rfl FgU.nil) (XN.cmp cs_gt (XN.call (up := fun _ m (θ : (List Int)) => θ) (MA.mut rfl (MAN.val (XN.r (RE.int 4)) fun _ => MA.nil)) (fun (v : Int × Unit) m => S__law_take m v.1) (dj hj (by decide)) (fun _ _ => (Asm.pin rfl (Asm.val Asm.nil))) (fun _ _ _ => Dsm.cast (Dsm.pin (Dsm.val Dsm.nil) rfl) rfl)) fun _ => (XN.r (RE.int 0))))
 (fun m26 => (by walk_at "jn"; exact (J.appX (PL.var rfl) (XN.u (fun (m : (List Int)) => [(0, some (pin d0 m))]) _ (FgU.same rfl FgU.nil) (XN.tup (fun (v : Int × Int × Int × Unit) => (⟨v.1, v.2.1, v.2.2.1⟩ : (T3 Int Int Int))) (fun _ => rfl) (fun _ => Nat.le_of_ble_eq_true rfl) (XPN.cons (XN.rv is_lix (fun _ => rfl) (fun _ => Ent.own) (XN.call (up := fun _ m (θ : (List Int)) => θ) (MA.mut rfl (MAN.val (XN.r (RE.var rfl (Ent.ro .refl))) fun _ => MA.nil)) (fun (v : Int × Unit) m => S__law_take m v.1) (dj hj (by decide)) (fun _ _ => (Asm.pin rfl (Asm.val Asm.nil))) (fun _ _ _ => Dsm.cast (Dsm.pin (Dsm.val Dsm.nil) rfl) rfl))) fun _ => (XPN.cons (XN.r (RE.lix (RE.var rfl Ent.own) (RE.var rfl (Ent.ro .refl)))) fun _ => (XPN.cons (XN.bin bs_add (XN.r (RE.int 1)) fun _ => (XN.call (up := fun _ m (θ : (List Int)) => θ) (MA.mut rfl (MAN.val (XN.r (RE.int 3)) fun _ => MA.nil)) (fun (v : Int × Unit) m => S__law_take m v.1) (dj hj (by decide)) (fun _ _ => (Asm.pin rfl (Asm.val Asm.nil))) (fun _ _ _ => Dsm.cast (Dsm.pin (Dsm.val Dsm.nil) rfl) rfl))) fun _ => XP.nil))))) (fun _ => (PL.var rfl)) fun v24 m25 =>
 (by walk_at "jn"; exact (J.nilP (m := (_, _)) 0 rfl rfl (J.nilAt (m := (_, _)) 4 rfl rfl (fgS (fgS (fgS (fgS (fgS (fgN (fgS (fgS (fgS fg0)))))))))))))))
 (fun m27 => (by walk_at "jn"; exact (J.nil (m := (_, _)) (fgS (fgS (fgS (fgS (fgS (fgN (fgS (fgS (fgS fg0))))))))))))))) fun m28 =>
 (by walk_at "jn"; exact (J.retV (θ := _) rfl ((RE.call (RAs.cons (RE.var rfl Ent.own) (RAs.cons (RE.var rfl Ent.own) RAs.nil)) (fun v => (S_make_net v.1 v.2.1).r) (dj hj (by decide)))).ve (fgS (fgN (fgN (fgN (fgN (fgN (fgN (fgN (fgN fg0)))))))))))))))))))))))))⟩
theorem S__law_net (a0 : (List Int)) : SpX P0 T 4 f_law_net (fun S (θ : (List Int)) => [own θ]) a0 ((F__law_net a0).1.bind Out.val) := SpX.fn rfl (by decide) (fun _ _ => rfl) (F__law_net a0).2
noncomputable def F__law_places (a0 : (List Int)) (a1 : (T2 (Tl Int) (Tl (T3 Int Int Int)))) : {o : Option (Out ((List Int)) ((List Int)) ((List Int)) (List Int) ((List Int))) // FnJ (ρ := (List Int)) P0 T 2 ⟨2, 4, b_law_places⟩ (fun S (θ : (List Int)) => [own θ, own a1]) a0 o} := ⟨_, fun j hj S0 ds hl => by
 obtain ⟨d0, d1, rfl⟩ := len2 hl
 exact
 (by walk_at "jn"; exact (J.asg (VE.lst0 (α := Int)) fun v1 =>
 (by walk_at "jn"; exact (J.forU (fun (m : (List Int) × (List Int)) => [(0, some (pin d0 m.1)), (2, some (own m.2)), (3, none)]) (_, _) (FgU.same rfl (FgU.same rfl (FgU.non FgU.nil))) (IT.rng1 (RE.lenT (RE.tix (i := 1) T2.b (fun _ => ⟨_, rfl, rfl⟩) (RE.var rfl Ent.pin)))) (fun S1 l1 m2 x3 => AsT.nm) (fun S1 l1 m2 x3 =>
 (by walk_at "jn"; exact (J.iteX (XN.u (fun (m : (List Int)) => [(0, some (pin d0 m))]) _ (FgU.same rfl FgU.nil) (XN.cmp cs_gt (XN.call (up := fun _ m (θ : (List Int)) => θ) (MA.mut rfl (MAN.val (XN.r (RE.int 3)) fun _ => MA.nil)) (fun (v : Int × Unit) m => S__law_take m v.1) (dj hj (by decide)) (fun _ _ => (Asm.pin rfl (Asm.val Asm.nil))) (fun _ _ _ => Dsm.cast (Dsm.pin (Dsm.val Dsm.nil) rfl) rfl)) fun _ => (XN.r (RE.int 0))))
 (fun m7 => (by walk_at "jn"; exact (J.insX (PL.var rfl) (XN.u (fun (m : (List Int)) => [(0, some (pin d0 m))]) _ (FgU.same rfl FgU.nil) (XN.call (up := fun _ m (θ : (List Int)) => θ) (MA.mut rfl (MAN.val (XN.r (RE.add (RE.lenL (RE.var rfl Ent.own)) (RE.int 1))) fun _ => MA.nil)) (fun (v : Int × Unit) m => S__law_take m v.1) (dj hj (by decide)) (fun _ _ => (Asm.pin rfl (Asm.val Asm.nil))) (fun _ _ _ => Dsm.cast (Dsm.pin (Dsm.val Dsm.nil) rfl) rfl))) (fun _ => (RE.var rfl (Ent.ro .refl))) (fun _ => (PL.var rfl)) fun q4 v5 m6 =>
 (by walk_at "jn"; exact (J.nilP (m := (_, _)) 0 rfl rfl (J.nilAt (m := (_, _)) 2 rfl rfl (fgS (fgS (fgS (fgN fg0))))))))))
 (fun m8 => (by walk_at "jn"; exact (J.nil (m := (_, _)) (fgS (fgS (fgS (fgN fg0)))))))))) fun m9 =>
 (by walk_at "jn"; exact (J.retO (θ := _) rfl rfl (fgS (fgS (fgN (fgN fg0))))))))))⟩
theorem S__law_places (a0 : (List Int)) (a1 : (T2 (Tl Int) (Tl (T3 Int Int Int)))) : SpX P0 T 2 f_law_places (fun S (θ : (List Int)) => [own θ, own a1]) a0 ((F__law_places a0 a1).1.bind Out.val) := SpX.fn rfl (by decide) (fun _ _ => rfl) (F__law_places a0 a1).2
noncomputable def F__law_has_ring (a0 : (T2 (Tl Int) (Tl (T3 Int Int Int)))) (a1 : (List Int)) : {o : Option (Out Unit Unit Unit Bool Unit) // FnP P0 T 1 ⟨2, 7, b_law_has_ring⟩ [rd a0, rd a1] (ρ := Bool) (fun _ => own) o} := ⟨_, fun j hj S0 => show J _ _ [some (ro S0 a0), some (ro S0 a1), none, none, none, none, none] _ _ from
 (by walk_at "jn"; exact (J.asg (VE.dictL ((VE.comp (IT.tl (RE.tix (i := 0) T2.a (fun _ => ⟨_, rfl, rfl⟩) (RE.var rfl (Ent.ro .refl)))) (fun S1 l1 x2 => AsT.nm) (fun S1 l1 x2 => (RE.bl true)) (fun S1 l1 x2 => (RE.tp2 (RAs.cons (RE.var rfl (Ent.ro .refl)) (RAs.cons (RE.var rfl (Ent.ro .refl)) RAs.nil)))))).ll) fun v1 =>
 (by walk_at "jn"; exact (J.forU (fun (m : (Dct Int Int)) => [(2, some (own m)), (3, none), (4, none), (5, none), (6, none)]) _ (FgU.same rfl (FgU.non (FgU.non (FgU.non (FgU.non FgU.nil))))) (IT.seqK (KE.var rfl .refl)) (fun S2 l2 m3 x4 => AsT.nm) (fun S2 l2 m3 x4 =>
 (by walk_at "jn"; exact (J.asgR (RE.dix (RE.var rfl Ent.own) (RE.tix (i := 0) T3.a (fun _ => ⟨_, rfl, rfl⟩) (RE.tlix (RE.tix (i := 1) T2.b (fun _ => ⟨_, rfl, rfl⟩) (RE.var rfl (Ent.ro l2))) (RE.var rfl (Ent.ro .refl))))) fun v5 =>
 (by walk_at "jn"; exact (J.asgR (RE.dix (RE.var rfl Ent.own) (RE.tix (i := 1) T3.b (fun _ => ⟨_, rfl, rfl⟩) (RE.tlix (RE.tix (i := 1) T2.b (fun _ => ⟨_, rfl, rfl⟩) (RE.var rfl (Ent.ro l2))) (RE.var rfl (Ent.ro .refl))))) fun v6 =>
 (by walk_at "jn"; exact (J.ite (RE.eq (α := Int) (RE.var rfl Ent.own) (RE.var rfl Ent.own))
 (by walk_at "jn"; exact (J.retV (θ := ()) rfl ((RE.bl true)).ve (fgN (fgN (fgN (fgN (fgN (fgN (fgN fg0)))))))))
 (by walk_at "jn"; exact (J.forU (fun (m : (Dct Int Int)) => [(2, some (own m)), (6, none)]) _ (FgU.same rfl (FgU.non FgU.nil)) (IT.tl (RE.tix (i := 0) T2.a (fun _ => ⟨_, rfl, rfl⟩) (RE.var rfl (Ent.ro l2)))) (fun S3 l3 m7 x8 => AsT.nm) (fun S3 l3 m7 x8 =>
 (by walk_at "jn"; exact (J.ite (RE.eq (α := Int) (RE.dix (RE.var rfl Ent.own) (RE.var rfl (Ent.ro .refl))) (RE.var rfl Ent.own))
 (by walk_at "jn"; exact (J.setD (PL.var rfl) (RE.var rfl (Ent.ro .refl)) ((RE.var rfl Ent.own)).ve fun q10 v9 =>
 (by walk_at "jn"; exact (J.nil (m := _) (fgS (fgS (fgS (fgS (fgS (fgS (fgN fg0)))))))))))
 (by walk_at "jn"; exact (J.nil (m := _) (fgS (fgS (fgS (fgS (fgS (fgS (fgN fg0)))))))))))) fun m11 =>
 (by walk_at "jn"; exact (J.nil (m := _) (fgS (fgS (fgS (fgN (fgN (fgN (fgN fg0)))))))))))))))))) fun m12 =>
 (by walk_at "jn"; exact (J.retV (θ := ()) rfl ((RE.bl false)).ve (fgN (fgN (fgN (fgN (fgN (fgN (fgN fg0)))))))))))))⟩
theorem S__law_has_ring (a0 : (T2 (Tl Int) (Tl (T3 Int Int Int)))) (a1 : (List Int)) : SpV P0 T 1 f_law_has_ring [rd a0, rd a1] ((F__law_has_ring a0 a1).1.bind Out.pv) := SpV.fn rfl (by decide) rfl (F__law_has_ring a0 a1).2
noncomputable def F__law_goes_round (a0 : (T2 (Tl Int) (Tl (T3 Int Int Int)))) (a1 : (List Int)) (a2 : Int) : {o : Option (Out Unit Unit Unit Bool Unit) // FnP P0 T 1 ⟨3, 6, b_law_goes_round⟩ [rd a0, rd a1, rd a2] (ρ := Bool) (fun _ => own) o} := ⟨_, fun j hj S0 => show J _ _ [some (ro S0 a0), some (ro S0 a1), some (ro S0 a2), none, none, none] _ _ from
 (by walk_at "jn"; exact (J.asgR (RE.var rfl (Ent.ro .refl)) fun v1 =>
 (by walk_at "jn"; exact (J.forU (fun (m : Int) => [(3, some (own m)), (4, none), (5, none)]) _ (FgU.same rfl (FgU.non (FgU.non FgU.nil))) (IT.seqK (KE.var rfl .refl)) (fun S1 l1 m2 x3 => AsT.nm) (fun S1 l1 m2 x3 =>
 (by walk_at "jn"; exact (J.asgR (RE.tlix (RE.tix (i := 1) T2.b (fun _ => ⟨_, rfl, rfl⟩) (RE.var rfl (Ent.ro l1))) (RE.var rfl (Ent.ro .refl))) fun v4 =>
 (by walk_at "jn"; exact (J.ite (RE.notinT (RE.var rfl Ent.own) (RE.sl32 (RE.var rfl Ent.own) OE.no (OE.some (RE.int 2)) rfl rfl))
 (by walk_at "jn"; exact (J.retV (θ := ()) rfl ((RE.bl false)).ve (fgN (fgN (fgN (fgN (fgN (fgN fg0))))))))
 (by walk_at "jn"; exact (J.asgR (RE.sub (RE.add (RE.tix (i := 0) T3.a (fun _ => ⟨_, rfl, rfl⟩) (RE.var rfl Ent.own)) (RE.tix (i := 1) T3.b (fun _ => ⟨_, rfl, rfl⟩) (RE.var rfl Ent.own))) (RE.var rfl Ent.own)) fun v5 =>
 (by walk_at "jn"; exact (J.nil (m := _) (fgS (fgS (fgS (fgS (fgN (fgN fg0))))))))))))))) fun m6 =>
 (by walk_at "jn"; exact (J.retV (θ := ()) rfl ((RE.eq (α := Int) (RE.var rfl Ent.own) (RE.var rfl (Ent.ro .refl)))).ve (fgN (fgN (fgN (fgN (fgN (fgN fg0))))))))))))⟩
theorem S__law_goes_round (a0 : (T2 (Tl Int) (Tl (T3 Int Int Int)))) (a1 : (List Int)) (a2 : Int) : SpV P0 T 1 f_law_goes_round [rd a0, rd a1, rd a2] ((F__law_goes_round a0 a1 a2).1.bind Out.pv) := SpV.fn rfl (by decide) rfl (F__law_goes_round a0 a1 a2).2
noncomputable def F__law_ring_right (a0 : (T2 (Tl Int) (Tl (T3 Int Int Int)))) (a1 : (List Int)) (a2 : (List Int)) : {o : Option (Out Unit Unit Unit Bool Unit) // FnP P0 T 2 ⟨3, 5, b_law_ring_right⟩ [rd a0, rd a1, rd a2] (ρ := Bool) (fun _ => own) o} := ⟨_, fun j hj S0 => show J _ _ [some (ro S0 a0), some (ro S0 a1), some (ro S0 a2), none, none] _ _ from
 (by walk_at "jn"; exact (J.ite (RE.or (RE.no (RE.isi kd_list rfl (RE.var rfl (Ent.ro .refl)))) (RE.or (RE.lt (RE.lenL (RE.var rfl (Ent.ro .refl))) (RE.int 2)) (RE.ne (α := Int) (RE.lset ((RE.var rfl (Ent.ro .refl))).ll) (RE.lenL (RE.var rfl (Ent.ro .refl))))))
 (by walk_at "jn"; exact (J.retV (θ := ()) rfl ((RE.bl false)).ve (fgN (fgN (fgN (fgN (fgN fg0)))))))
 (by walk_at "jn"; exact (J.ite (RE.neL (α := Int) (by decide) ((VE.comp (IT.seqK (KE.var rfl .refl)) (fun S1 l1 x1 => AsT.nm) (fun S1 l1 x1 => (RE.notinL (RE.var rfl (Ent.ro .refl)) ((RE.var rfl (Ent.ro l1))).ll)) (fun S1 l1 x1 => (RE.var rfl (Ent.ro .refl))))).re ((VE.lst0 (α := Int))).re)
 (by walk_at "jn"; exact (J.retV (θ := ()) rfl ((RE.bl false)).ve (fgN (fgN (fgN (fgN (fgN fg0)))))))
 (by walk_at "jn"; exact (J.asgR (RE.sl32 (RE.tlix (RE.tix (i := 1) T2.b (fun _ => ⟨_, rfl, rfl⟩) (RE.var rfl (Ent.ro .refl))) (RE.lix (RE.var rfl (Ent.ro .refl)) (RE.int 0))) OE.no (OE.some (RE.int 2)) rfl rfl) fun v2 =>
 (by walk_at "jn"; exact (J.retV (θ := ()) rfl ((RE.or (RE.call (RAs.cons (RE.var rfl (Ent.ro .refl)) (RAs.cons (RE.var rfl (Ent.ro .refl)) (RAs.cons (RE.tlix (RE.var rfl Ent.own) (RE.int 0)) RAs.nil))) (fun v => (S__law_goes_round v.1 v.2.1 v.2.2.1).r) (dj hj (by decide))) (RE.call (RAs.cons (RE.var rfl (Ent.ro .refl)) (RAs.cons (RE.var rfl (Ent.ro .refl)) (RAs.cons (RE.tlix (RE.var rfl Ent.own) (RE.int 1)) RAs.nil))) (fun v => (S__law_goes_round v.1 v.2.1 v.2.2.1).r) (dj hj (by decide))))).ve (fgN (fgN (fgN (fgN (fgN fg0)))))))))))))⟩
theorem S__law_ring_right (a0 : (T2 (Tl Int) (Tl (T3 Int Int Int)))) (a1 : (List Int)) (a2 : (List Int)) : SpV P0 T 2 f_law_ring_right [rd a0, rd a1, rd a2] ((F__law_ring_right a0 a1 a2).1.bind Out.pv) := SpV.fn rfl (by decide) rfl (F__law_ring_right a0 a1 a2).2
noncomputable def F_law (a0 : Scr) : {o : Option (Out Unit Unit Unit Bool Unit) // FnP P0 T 5 ⟨1, 7, b_law⟩ [rd a0] (ρ := Bool) (fun _ => own) o} := ⟨_, fun j hj S0 => show J _ _ [some (ro S0 a0), none, none, none, none, none, none] _ _ from
 (by walk_at "jn"; exact (J.forU (fun (m : Unit) => [(1, none), (2, none), (3, none), (4, none), (5, none), (6, none)]) () (FgU.non (FgU.non (FgU.non (FgU.non (FgU.non (FgU.non FgU.nil)))))) (IT.seqV (VE.addL ((VE.slcC (RE.var rfl (Ent.ro .refl)) OE.no (OE.some (RE.int 30)))).re ((VE.lst (LDs.cons (RE.int 0) (LDs.nil (α := Int))))).re)) (fun S1 l1 m1 x2 => AsT.nm) (fun S1 l1 m1 x2 =>
 (by walk_at "jn"; exact (J.asg (VE.call (RAs.cons (RE.var rfl (Ent.ro .refl)) RAs.nil) (fun v => (S__law_row v.1)) (dj hj (by decide))) fun v3 =>
 (by walk_at "jn"; exact (J.asgX (XN.u (fun (m : (List Int)) => [(2, some (own m))]) _ (FgU.same rfl FgU.nil) (XN.call (up := fun _ m (θ : (List Int)) => θ) (MA.mut rfl MA.nil) (fun (v : Unit) m => S__law_net m) (dj hj (by decide)) (fun _ _ => (Asm.own rfl Asm.nil)) (fun _ _ _ => Dsm.cast (Dsm.own Dsm.nil (Nat.le_of_ble_eq_true rfl)) rfl))) fun v4 m5 =>
 (by walk_at "jn"; exact (J.asgX (XN.u (fun (m : (List Int)) => [(2, some (own m))]) _ (FgU.same rfl FgU.nil) (XN.call (up := fun _ m (θ : (List Int)) => θ) (MA.mut rfl (MAN.val (XN.r (RE.var rfl Ent.own)) fun _ => MA.nil)) (fun (v : (T2 (Tl Int) (Tl (T3 Int Int Int))) × Unit) m => S__law_places m v.1) (dj hj (by decide)) (fun _ _ => (Asm.own rfl (Asm.val Asm.nil))) (fun _ _ _ => Dsm.cast (Dsm.own (Dsm.val Dsm.nil) (Nat.le_of_ble_eq_true rfl)) rfl))) fun v6 m7 =>
 (by walk_at "jn"; exact (J.asg (VE.listL ((RE.var rfl Ent.own)).ll) fun v8 =>
 (by walk_at "jn"; exact (J.asg (VE.call (RAs.cons (RE.var rfl Ent.own) (RAs.cons (RE.var rfl Ent.own) RAs.nil)) (fun v => (S_ring_of v.1 v.2.1)) (dj hj (by decide))) fun v9 =>
 (by walk_at "jn"; exact (J.ite (RE.neL (α := Int) (by decide) (RE.var rfl Ent.own) (RE.var rfl Ent.own))
 (by walk_at "jn"; exact (J.retV (θ := ()) rfl ((RE.bl false)).ve (fgN (fgN (fgN (fgN (fgN (fgN (fgN fg0)))))))))
 (by walk_at "jn"; exact (J.ite (RE.no (RE.call (RAs.cons (RE.var rfl Ent.own) (RAs.cons (RE.var rfl Ent.own) RAs.nil)) (fun v => (S__law_has_ring v.1 v.2.1).r) (dj hj (by decide))))
 (by walk_at "jn"; exact (J.ite (RE.opnN nn_lst (RE.var rfl Ent.own))
 (J.unop (i := 6) rfl fun x10 => (by walk_at "jn"; exact (J.retV (θ := ()) rfl ((RE.bl false)).ve (fgN (fgN (fgN (fgN (fgN (fgN (fgN fg0))))))))))
 (by walk_at "jn"; exact (J.nil (m := ()) (fgS (fgN (fgN (fgN (fgN (fgN (fgN fg0)))))))))))
 (by walk_at "jn"; exact (J.ite (RE.no (RE.call (RAs.cons (RE.var rfl Ent.own) (RAs.cons (RE.var rfl Ent.own) (RAs.cons (RE.opS (RE.var rfl Ent.own)) RAs.nil))) (fun v => (S__law_ring_right v.1 v.2.1 v.2.2.1).r) (dj hj (by decide))))
 (by walk_at "jn"; exact (J.retV (θ := ()) rfl ((RE.bl false)).ve (fgN (fgN (fgN (fgN (fgN (fgN (fgN fg0)))))))))
 (by walk_at "jn"; exact (J.nil (m := ()) (fgS (fgN (fgN (fgN (fgN (fgN (fgN fg0)))))))))))))))))))))))))) fun m11 =>
 (by walk_at "jn"; exact (J.retV (θ := ()) rfl ((RE.bl true)).ve (fgN (fgN (fgN (fgN (fgN (fgN (fgN fg0)))))))))))⟩
theorem S_law (a0 : Scr) : SpV P0 T 5 f_law [rd a0] ((F_law a0).1.bind Out.pv) := SpV.fn rfl (by decide) rfl (F_law a0).2
end SW
namespace SW
open PySem L2
/-! ### plain laws of dicts, loops -/
section
variable {κ α : Type} [DecidableEq κ]
theorem lg_cons (q : κ) (u : α) (r : List (κ × α)) (k : κ) : lg ((q, u) :: r) k = if q = k then some u else lg r k := rfl
theorem lp_cons (q : κ) (u : α) (r : List (κ × α)) (k : κ) (v : α) : lp ((q, u) :: r) k v = if q = k then (q, v) :: r else (q, u) :: lp r k v := rfl
theorem lg_lp (k : κ) (v : α) (j : κ) : ∀ l : List (κ × α), lg (lp l k v) j = if k = j then some v else lg l j
  | [] => rfl
  | (q, u) :: r => by
    rw [lp_cons, lg_cons]
    by_cases c : q = k
    · rw [if_pos c, lg_cons, c]
      by_cases d : k = j
      · rw [if_pos d, if_pos d]
      · rw [if_neg d, if_neg d, if_neg d]
    · rw [if_neg c, lg_cons, lg_lp k v j r]
      by_cases d : q = j
      · rw [if_pos d, if_pos d, if_neg (fun e => c (d.trans e.symm))]
      · rw [if_neg d, if_neg d]
theorem lg_mem {k : κ} {v : α} : ∀ {l : List (κ × α)}, lg l k = some v → (k, v) ∈ l
  | [], e => by cases e
  | (q, u) :: r, e => by
    rw [lg_cons] at e
    by_cases c : q = k
    · rw [if_pos c] at e; cases e; rw [c]; exact List.mem_cons_self
    · rw [if_neg c] at e; exact List.mem_cons_of_mem _ (lg_mem e)
theorem lg_none {k : κ} : ∀ {l : List (κ × α)}, lg l k = none ↔ k ∉ l.map fun p => p.1
  | [] => ⟨fun _ => List.not_mem_nil, fun _ => rfl⟩
  | (q, u) :: r => by
    rw [lg_cons, List.map_cons, List.mem_cons, not_or]
    by_cases c : q = k
    · rw [if_pos c]
      exact ⟨fun e => (by cases e), fun e => absurd c.symm e.1⟩
    · rw [if_neg c, lg_none]
      exact ⟨fun e => ⟨fun z => c z.symm, e⟩, fun e => e.2⟩
theorem lg_of_mem {k : κ} {v : α} : ∀ {l : List (κ × α)}, (l.map fun p => p.1).Nodup → (k, v) ∈ l → lg l k = some v
  | [], _, h => by cases h
  | (q, u) :: r, n, h => by
    rw [List.map_cons, List.nodup_cons] at n
    rw [lg_cons]
    rcases List.mem_cons.mp h with e | h
    · cases e; rw [if_pos rfl]
    · rw [if_neg (fun z => n.1 (List.mem_map.mpr ⟨(k, v), h, z.symm⟩)), lg_of_mem n.2 h]
theorem lp_new {k : κ} {v : α} : ∀ {l : List (κ × α)}, k ∉ l.map (fun p => p.1) → lp l k v = l ++ [(k, v)]
  | [], _ => rfl
  | (q, u) :: r, h => by
    rw [List.map_cons, List.mem_cons, not_or] at h
    rw [lp_cons, if_neg (fun z => h.1 z.symm), lp_new h.2]
    rfl
end
section
variable {M C B ρ Θ α : Type}
theorem forO_inv {f : M → α → Option (Out M M M ρ Θ)} {xs : List α} (I : Nat → M → Prop) (step : ∀ k x m, xs[k]? = some x → I k m → ∃ m', f m x = some (.nx m') ∧ I (k + 1) m') {m0 : M} (h0 : I 0 m0) : ∃ m', (forO f xs m0 : Option (Out M C B ρ Θ)) = some (.nx m') ∧ I xs.length m' := by
  have go : ∀ (ys : List α) (k : Nat) (m : M), (∀ i : Nat, xs[k + i]? = ys[i]?) → I k m → ∃ m', (forO f ys m : Option (Out M C B ρ Θ)) = some (.nx m') ∧ I (k + ys.length) m' := by
    intro ys
    induction ys with
    | nil => intro k m _ h; exact ⟨m, rfl, h⟩
    | cons y ys ih =>
      intro k m hx h
      obtain ⟨m1, e1, h1⟩ := step k y m (hx 0) h
      obtain ⟨m2, e2, h2⟩ := ih (k + 1) m1 (fun i => by rw [Nat.add_assoc, Nat.add_comm 1 i]; exact hx (i + 1)) h1
      refine ⟨m2, ?_, by rw [List.length_cons, Nat.add_comm ys.length 1, ← Nat.add_assoc]; exact h2⟩
      show (f m y).bind _ = _
      rw [e1]
      exact e2
  obtain ⟨m', e, h⟩ := go xs 0 m0 (fun i => by rw [Nat.zero_add]) h0
  exact ⟨m', e, by rw [Nat.zero_add] at h; exact h⟩
end
theorem nodup_le {α : Type} [DecidableEq α] : ∀ {l m : List α}, l.Nodup → (∀ x ∈ l, x ∈ m) → l.length ≤ m.length
  | [], _, _, _ => Nat.zero_le _
  | x :: l, m, n, h => by
    rw [List.nodup_cons] at n
    have hx := h x List.mem_cons_self
    have e := List.length_erase_of_mem hx
    have p : 0 < m.length := List.length_pos_of_mem hx
    have q := nodup_le (m := m.erase x) n.2 fun y hy => (List.mem_erase_of_ne (fun z => n.1 (by rw [← z]; exact hy))).mpr (h y (List.mem_cons_of_mem _ hy))
    rw [List.length_cons]
    omega
theorem ask_sz {α : Type} {n : Nat} (h : n < 1000000) {o : Option α} : ask (n < sizeLine) o = o := ask_of (lenOk' h)
end SW
namespace SW
open PySem L2
/-! ### a bridge: what it computes -/
end SW
namespace SW
open PySem L2
/-! ### a tick -/
end SW
namespace SW
open PySem L2
/-! ### a yard: what it computes -/
theorem dg_dp {α : Type} (x : Dct Int α) (k j : Int) (v : α) : dg (dp x k v) j = if k = j then some v else dg x j := lg_lp k v j x.l
end SW
namespace SW
open PySem L2
abbrev sTick : D := .str (tx [116, 105, 99, 107])
abbrev sCome : D := .str (tx [99, 111, 109, 101])
abbrev sLost : D := .str (tx [108, 111, 115, 116])
abbrev sTie : D := .str (tx [116, 105, 101])
abbrev sFall : D := .str (tx [102, 97, 108, 108])
abbrev sBack : D := .str (tx [98, 97, 99, 107])
abbrev sBridge : D := .str (tx [98, 114, 105, 100, 103, 101])
inductive Dd
  | tick (n : Int)
  | come (k : Int)
  | lost (k : Int)
  | bridge (back : Bool) (n : Int)
  | tie (back : Bool) (p : Int)
  deriving DecidableEq
def fb (b : Bool) : D := bif b then sBack else sFall
def Dd.enc : Dd → D
  | .tick n => .tup [sTick, .int n]
  | .come n => .tup [sCome, .int n]
  | .lost n => .tup [sLost, .int n]
  | .bridge b n => .tup [fb b, sBridge, .int n]
  | .tie b n => .tup [fb b, sTie, .int n]
theorem and_dec {p q : Prop} [Decidable p] [Decidable q] : (bif decide p then some (decide q) else some false) = some (decide (p ∧ q)) := by
  by_cases c : p
  · rw [decide_eq_true c, cond_true]
    by_cases d : q
    · rw [decide_eq_true d, decide_eq_true ⟨c, d⟩]
    · rw [decide_eq_false d, decide_eq_false fun z => d z.2]
  · rw [decide_eq_false c, cond_false, decide_eq_false fun z => c z.1]
end SW
namespace SW
open PySem L2
/-! ### what holds of a yard -/
def tieN (n : Net) (p : Int) : Option Tie := if 0 ≤ p then n.b.l[p.toNat]? else none
theorem tieN_at {n : Net} {p : Int} {t : Tie} (h : tieN n p = some t) (hl : n.b.l.length ≤ 16) : atI n.b.l p = some t := by
  unfold tieN at h
  split at h
  · rename_i c
    have lt : p.toNat < n.b.l.length := by
      by_cases d : p.toNat < n.b.l.length
      · exact d
      · rw [List.getElem?_eq_none (by omega)] at h; cases h
    unfold atI
    have e : ixN n.b.l.length p = some p.toNat := by
      unfold ixN
      rw [if_pos c, if_pos (by omega)]
    rw [e]
    exact h
  · cases h
theorem tieN_rng {n : Net} {p : Int} {t : Tie} (h : tieN n p = some t) : 0 ≤ p ∧ p < n.b.l.length ∧ t ∈ n.b.l := by
  unfold tieN at h
  split at h
  · refine ⟨by assumption, ?_, List.mem_of_getElem? h⟩
    by_cases d : p.toNat < n.b.l.length
    · omega
    · rw [List.getElem?_eq_none (by omega)] at h; cases h
  · cases h
theorem tieN_of {n : Net} {p : Int} (h : 0 ≤ p ∧ p < n.b.l.length) : ∃ t, tieN n p = some t := by
  unfold tieN
  rw [if_pos h.1]
  exact ⟨_, List.getElem?_eq_getElem (by omega)⟩
structure NetOk (n : Net) : Prop where
  bn : n.a.l.Nodup
  bl : n.a.l.length ≤ 10
  tl : n.b.l.length ≤ 16
  tie : ∀ t ∈ n.b.l, t.a ∈ n.a.l ∧ t.b ∈ n.a.l ∧ t.a < t.b ∧ 1 ≤ t.c ∧ t.c ≤ 1000
end SW
namespace SW
open PySem L2
/-! ### deeds that can be done -/
end SW
namespace SW
open PySem L2
/-! ### what holds of a yard goes on -/
/-! a bridge falls, comes back -/
end SW
namespace SW
open PySem L2
end SW
namespace SW
open PySem L2
/-! ### what a yard tells; a new yard -/
theorem compO_fm {α β : Type} {c : α → Option Bool} {f : α → Option β} (h : α → Option β) : ∀ xs : List α, (∀ x ∈ xs, c x = some (h x).isSome ∧ ∀ y, h x = some y → f x = some y) → compO c f xs = some (xs.filterMap h)
  | [], _ => rfl
  | x :: xs, st => by
    obtain ⟨s1, s2⟩ := st x List.mem_cons_self
    have ih := compO_fm h xs fun y hy => st y (List.mem_cons_of_mem _ hy)
    show ((c x).bind fun b => bif b then (f x).bind fun y => (compO c f xs).bind fun r => some (y :: r) else compO c f xs) = _
    rw [s1, Option.bind_some, ih]
    cases e : h x with
    | none => rw [List.filterMap_cons_none e]; rfl
    | some y => rw [List.filterMap_cons_some e, s2 y e]; rfl
theorem ask_le {α : Type} {n : Nat} (h : n ≤ 1000000) {o : Option α} : ask (n ≤ 1000000) o = o := ask_of h
end SW
namespace SW
open PySem L2
end SW
namespace SW
open PySem L2
/-- as Option.bind_some, but by a proof that simp has to write down: the kernel is quick then -/
theorem bS {α β : Type} (a : α) (f : α → Option β) : (some a).bind f = f a := by
  cases h : f a with
  | none => exact h
  | some b => exact h
theorem hpf {α : Type} {a b : α} (h : a = b) : a = b := h
theorem cF {α : Type} (a b : α) : (bif false then a else b) = b := hpf rfl
theorem cT {α : Type} (a b : α) : (bif true then a else b) = a := hpf rfl
theorem nT : (!true) = false := hpf rfl
theorem nF : (!false) = true := hpf rfl
theorem pvR {ρ : Type} (v : ρ) : Out.pv (.rt v ()) = some v := hpf rfl
theorem fuelW_eq : fuelW = 1000000 := by unfold fuelW; rfl
theorem mulO_l {x y : Int} (h : -(2 ^ 64) < x ∧ x < 2 ^ 64) : mulO x y = some (x * y) := ask_of (.inl (.inl h))
theorem modO_p {x y : Int} (h : 0 < y) : modO x y = some (x % y) := ask_of h
theorem divO_p {x y : Int} (h : 0 < y ∧ y < 1073741824) : divO x y = some (x / y) := ask_of h
theorem rngI_nat (n : Nat) : rngI 0 n = (List.range n).map fun k : Nat => (k : Int) := by
  unfold rngI
  have e : ((n : Int) - 0).toNat = n := by omega
  rw [e]
  exact List.map_congr_left fun k _ => Int.zero_add _
theorem rngI_get {n : Nat} {k : Nat} {x : Int} (h : (rngI 0 n)[k]? = some x) : x = k ∧ k < n := by
  rw [rngI_nat, List.getElem?_map] at h
  by_cases c : k < n
  · rw [List.getElem?_range c] at h
    cases h
    exact ⟨rfl, c⟩
  · rw [List.getElem?_eq_none (by rw [List.length_range]; omega)] at h
    cases h
theorem rngI_len (n : Nat) : (rngI 0 n).length = n := by
  unfold rngI
  rw [List.length_map, List.length_range]
  omega
theorem atI_nat {α : Type} {l : List α} {k : Nat} (h : k < l.length) : atI l (k : Int) = some l[k] := by
  unfold atI
  have e : ixN l.length (k : Int) = some k := by
    unfold ixN
    rw [if_pos (by omega), if_pos (by omega)]
    simp
  rw [e]
  exact List.getElem?_eq_getElem h
/-- a while loop with a bound that falls -/
theorem whileO_ok {M C B ρ Θ : Type} {t : M → Option Bool} {f : M → Option (Out M M M ρ Θ)} (I : M → Prop) (g : M → Nat) (ht : ∀ m, I m → ∃ b, t m = some b) (step : ∀ m, I m → t m = some true → ∃ m', f m = some (.nx m') ∧ I m' ∧ g m' < g m) :
    ∀ (n : Nat) (m : M), I m → g m < n → ∃ m', (whileO t f n m : Option (Out M C B ρ Θ)) = some (.nx m') ∧ I m' ∧ t m' = some false
  | 0, m, _, h => absurd h (Nat.not_lt_zero _)
  | n + 1, m, hi, h => by
    obtain ⟨b, eb⟩ := ht m hi
    cases b with
    | false =>
      refine ⟨m, ?_, hi, eb⟩
      simp only [whileO, eb, Option.bind_some, cond_false]
    | true =>
      obtain ⟨m', e1, i1, l1⟩ := step m hi eb
      simp only [whileO, eb, Option.bind_some, cond_true, e1]
      exact whileO_ok I g ht step n m' i1 (by omega)
/-- walks, said of what goes on behind them -/
theorem pfor {M C B ρ Θ M0 α : Type} {f : M0 → α → Option (Out M0 M0 M0 ρ Θ)} {xs : List α} {m0 : M0} {k : M0 → Option (Out M C B ρ Θ)} {P : Option (Out M C B ρ Θ) → Prop} (I : Nat → M0 → Prop) (h0 : I 0 m0) (step : ∀ i x m, xs[i]? = some x → I i m → ∃ m', f m x = some (.nx m') ∧ I (i + 1) m') (h : ∀ m, I xs.length m → P (k m)) : P ((forO f xs m0).bind (Out.go k)) := by
  obtain ⟨m, e, i⟩ := forO_inv (C := C) (B := B) I step h0
  rw [e]
  exact h m i
end SW
namespace SW
open PySem L2
theorem nodup_inj {α : Type} {l : List α} (h : l.Nodup) {i j : Nat} {v : α} (e1 : l[i]? = some v) (e2 : l[j]? = some v) : i = j :=
  (List.getElem?_inj (List.getElem?_eq_some_iff.mp e1).1 h).mp (e1.trans e2.symm)
theorem cutL_take {α : Type} (l : List α) {k : Nat} (h : k ≤ l.length) : cutL l none (some (k : Int)) = l.take k := by
  unfold cutL
  rw [HT.sIx_nat, HT.sIx_none, List.drop_zero, Nat.min_eq_left h, Nat.sub_zero]
theorem enuI_get {α : Type} {l : List α} {k : Nat} {x : T2 Int α} (h : (enuI l)[k]? = some x) : x.a = k ∧ l[k]? = some x.b := by
  unfold enuI at h
  rw [List.getElem?_zipWith] at h
  cases e1 : (List.range l.length)[k]? with
  | none => rw [e1] at h; cases h
  | some q =>
    cases e2 : l[k]? with
    | none => rw [e1, e2] at h; cases h
    | some v =>
      rw [e1, e2] at h
      cases h
      obtain ⟨lt, e3⟩ := List.getElem?_eq_some_iff.mp e1
      rw [List.getElem_range] at e3
      exact ⟨by show (q : Int) = k; omega, rfl⟩
structure NetG (n : Net) : Prop where
  ok : NetOk n
  ne : n.a.l ≠ []
  rg : ∀ k ∈ n.a.l, 0 ≤ k ∧ k ≤ 999
  so : n.a.l.Pairwise (· ≤ ·)
theorem NetG.st {n : Net} (g : NetG n) : n.a.l.Pairwise (· < ·) := (g.so.and g.ok.bn).imp fun ⟨a, b⟩ => by
  have b : _ ≠ _ := b
  omega
theorem rngI1_get {n : Nat} {k : Nat} {x : Int} (h : (rngI 1 n)[k]? = some x) : x = ((k + 1 : Nat) : Int) ∧ k + 1 < n := by
  unfold rngI at h
  rw [List.getElem?_map] at h
  by_cases c : k < ((n : Int) - 1).toNat
  · rw [List.getElem?_range c] at h
    cases h
    refine ⟨?_, by omega⟩
    show 1 + (k : Int) = ((k + 1 : Nat) : Int)
    omega
  · rw [List.getElem?_eq_none (by rw [List.length_range]; omega)] at h
    cases h
theorem compX_ok {α β M : Type} {f : M → α → Option (β × M)} (J : M → Prop) (R : β → Prop) : ∀ (xs : List α) (m : M), J m → (∀ x ∈ xs, ∀ m, J m → ∃ y m', f m x = some (y, m') ∧ J m' ∧ R y) → ∃ ys m', compX f xs m = some (ys, m') ∧ J m' ∧ ys.length = xs.length ∧ ∀ y ∈ ys, R y
  | [], m, h, _ => ⟨[], m, rfl, h, rfl, fun y h => (by cases h)⟩
  | x :: xs, m, h, st => by
    obtain ⟨y, m1, e1, j1, r1⟩ := st x List.mem_cons_self m h
    obtain ⟨ys, m2, e2, j2, l2, r2⟩ := compX_ok J R xs m1 j1 fun z hz => st z (List.mem_cons_of_mem _ hz)
    refine ⟨y :: ys, m2, ?_, j2, by rw [List.length_cons, List.length_cons, l2], fun z hz => ?_⟩
    · show ((f m x).bind fun q => (compX f xs q.2).bind fun r => some (q.1 :: r.1, r.2)) = _
      rw [e1, Option.bind_some, e2]
      rfl
    · rcases List.mem_cons.mp hz with e | e
      · rw [e]; exact r1
      · exact r2 z e
theorem pforB {M C B ρ Θ M0 α δ : Type} {f : M0 → α → Option (Out M0 M0 M0 ρ Θ)} {xs : List α} {m0 : M0} {k : M0 → Option (Out M C B ρ Θ)} {g : Out M C B ρ Θ → Option δ} {P : Option δ → Prop} (I : Nat → M0 → Prop) (h0 : I 0 m0) (step : ∀ i x m, xs[i]? = some x → I i m → ∃ m', f m x = some (.nx m') ∧ I (i + 1) m') (h : ∀ m, I xs.length m → P ((k m).bind g)) : P ((forO f xs m0).bind fun y => (Out.go k y).bind g) := by
  obtain ⟨m, e, i⟩ := forO_inv (C := C) (B := B) I step h0
  rw [e]
  exact h m i
theorem pwhileB {M C B ρ Θ M0 δ : Type} {t : M0 → Option Bool} {f : M0 → Option (Out M0 M0 M0 ρ Θ)} {n : Nat} {m0 : M0} {k : M0 → Option (Out M C B ρ Θ)} {q : Out M C B ρ Θ → Option δ} {P : Option δ → Prop} (I : M0 → Prop) (g : M0 → Nat) (h0 : I m0) (hn : g m0 < n) (ht : ∀ m, I m → ∃ b, t m = some b) (step : ∀ m, I m → t m = some true → ∃ m', f m = some (.nx m') ∧ I m' ∧ g m' < g m) (h : ∀ m, I m → t m = some false → P ((k m).bind q)) : P ((whileO t f n m0).bind fun y => (Out.go k y).bind q) := by
  obtain ⟨m, e, i, z⟩ := whileO_ok (C := C) (B := B) I g ht step n m0 h0 hn
  rw [e]
  exact h m i z
end SW
namespace SW
open PySem L2
theorem within_eq (x lo hi : Int) : ((F_is_within x lo hi).1.bind Out.pv) = some (decide (lo ≤ x ∧ x ≤ hi)) := by
  show (((bif (bif true then some (!false) else some false) = some true then (bif decide (lo ≤ x) then some (decide (x ≤ hi)) else some false) else some false).bind fun v => some (Out.rt v ())).bind Out.pv) = _
  rw [and_dec]
  rfl
theorem need_eq (ns : List Int) (hn : ns.Nodup) (hr : ∀ n ∈ ns, 0 ≤ n ∧ n ≤ 999) (h1 : 1 ≤ ns.length) (h2 : ns.length ≤ 10) : ((F_need_bridges ns).1.bind Out.pvU) = some () := by
  unfold F_need_bridges
  simp only [Option.bind_some]
  have e1 : (1 : Int) ≤ (ns.length : Int) := by omega
  have e2 : (ns.length : Int) ≤ 10 := by omega
  rw [decide_eq_true e1, decide_eq_true e2]
  simp only [cond_true, cond_false, Bool.not_true, Bool.or_false, Bool.true_or, Option.bind_some]
  refine pfor (P := fun o : Option (Out Unit Unit Unit Unit Unit) => o.bind Out.pvU = some ()) (fun _ _ => True) trivial (fun k x m hx _ => ⟨(), ?_, trivial⟩) fun m _ => rfl
  obtain ⟨ea, eb⟩ := enuI_get hx
  have mb := hr _ (List.mem_of_getElem? eb)
  obtain ⟨lt, eb'⟩ := List.getElem?_eq_some_iff.mp eb
  rw [within_eq, decide_eq_true mb, ea, cutL_take ns (by omega)]
  have nm : x.b ∉ ns.take k := fun h => by
    obtain ⟨i, li, e⟩ := List.mem_take_iff_getElem.mp h
    have := nodup_inj hn (show ns[i]? = some x.b by rw [List.getElem?_eq_getElem (by omega), e]) eb
    omega
  rw [decide_eq_false nm]
  rfl
def normT (t : Tie) : Tie := ⟨if t.b < t.a then t.b else t.a, if t.a < t.b then t.b else t.a, t.c⟩
structure TieG (ns : List Int) (t : Tie) : Prop where
  a : t.a ∈ ns
  b : t.b ∈ ns
  ne : t.a ≠ t.b
  c : 1 ≤ t.c ∧ t.c ≤ 1000
theorem tie_eq {ns : List Int} (hr : ∀ n ∈ ns, 0 ≤ n ∧ n ≤ 999) {t : Tie} (h : TieG ns t) : ((F_tie_of ns t).1.bind Out.pv) = some (normT t) := by
  unfold F_tie_of
  simp only [Option.bind_some, within_eq, decide_eq_true h.c]
  simp only [cond_true, cond_false, Bool.not_true, Bool.or_false, Bool.true_or, Option.bind_some, decide_true]
  refine pfor (P := fun o : Option (Out Unit Unit Unit Tie Unit) => o.bind Out.pv = some (normT t)) (fun _ _ => True) trivial (fun k x m hx _ => ⟨(), ?_, trivial⟩) fun m _ => ?_
  · have hm : x ∈ ns := by
      have := List.mem_of_getElem? hx
      rcases List.mem_cons.mp this with e | e
      · rw [e]; exact h.a
      · rcases List.mem_cons.mp e with e | e
        · rw [e]; exact h.b
        · cases e
    rw [decide_eq_true (hr x hm), decide_eq_true hm]
    rfl
  · rw [decide_eq_false h.ne]
    rfl
theorem make_eq (ns : List Int) (ts : List Tie) (hn : ns.Nodup) (hr : ∀ n ∈ ns, 0 ≤ n ∧ n ≤ 999) (h1 : 1 ≤ ns.length) (h2 : ns.length ≤ 10) (ht : ts.length ≤ 16) (hg : ∀ t ∈ ts, TieG ns t) :
    ((F_make_net ns ts).1.bind Out.pv) = some ⟨⟨sortI ns⟩, ⟨ts.map normT⟩⟩ ∧ NetG ⟨⟨sortI ns⟩, ⟨ts.map normT⟩⟩ := by
  constructor
  · unfold F_make_net
    simp only [Option.bind_some, need_eq ns hn hr h1 h2]
    have e1 : ¬ (16 : Int) < (ts.length : Int) := by omega
    rw [decide_eq_false e1]
    simp only [cond_true, cond_false, Bool.not_true, Bool.or_false, Bool.true_or, Option.bind_some]
    rw [ask_le (by omega), compO_fm (c := fun _ => some true) (f := fun x1 => (F_tie_of ns x1).1.bind Out.pv) (fun t => some (normT t)) ts fun t m => ⟨rfl, fun y e => by cases e; exact tie_eq hr (hg t m)⟩]
    have e2 : ts.filterMap (fun t => some (normT t)) = ts.map normT := by
      show List.filterMap (some ∘ normT) ts = _
      rw [List.filterMap_eq_map]
    rw [e2]
    rfl
  · have pm := sortI_perm ns
    refine ⟨⟨pm.nodup_iff.mpr hn, by show (sortI ns).length ≤ 10; rw [pm.length_eq]; exact h2, by show (ts.map normT).length ≤ 16; rw [List.length_map]; exact ht, fun t m => ?_⟩, ?_, fun k m => hr k (pm.mem_iff.mp m), sortI_sorted ns⟩
    · obtain ⟨u, hu, rfl⟩ := List.mem_map.mp m
      obtain ⟨a, b, ne, c⟩ := hg u hu
      have a := pm.mem_iff.mpr a
      have b := pm.mem_iff.mpr b
      show (if u.b < u.a then u.b else u.a) ∈ sortI ns ∧ (if u.a < u.b then u.b else u.a) ∈ sortI ns ∧ (if u.b < u.a then u.b else u.a) < (if u.a < u.b then u.b else u.a) ∧ _
      by_cases d : u.b < u.a
      · rw [if_pos d, if_neg (by omega)]
        exact ⟨b, a, d, c⟩
      · rw [if_neg d, if_pos (by omega)]
        exact ⟨a, b, by omega, c⟩
    · show sortI ns ≠ []
      intro z
      have := pm.length_eq
      rw [z] at this
      simp only [List.length_nil] at this
      omega
end SW
namespace SW
open PySem L2
/-! ### a drawn net -/
end SW
namespace SW
open PySem L2
/-! ### rows of deeds -/
/-! ### a drawn deed -/
end SW
namespace SW
open PySem L2
theorem pvQ {ρ δ : Type} {o : Option (Out Unit Unit Unit ρ Unit)} {v : ρ} (e : o.bind Out.pv = some v) {k : ρ → Option δ} : (o.bind fun y => y.pv.bind k) = k v := by
  cases o with
  | none => cases e
  | some q =>
    rw [Option.bind_some] at e
    rw [Option.bind_some, e, Option.bind_some]
theorem valQ {ρ Θ δ : Type} {o : Option (Out Θ Θ Θ ρ Θ)} {v : ρ × Θ} (e : o.bind Out.val = some v) {k : ρ × Θ → Option δ} : (o.bind fun y => y.val.bind k) = k v := by
  cases o with
  | none => cases e
  | some q =>
    rw [Option.bind_some] at e
    rw [Option.bind_some, e, Option.bind_some]
theorem rngI_mem {n : Nat} {x : Int} (h : x ∈ rngI 0 (n : Int)) : 0 ≤ x ∧ x < n := by
  obtain ⟨k, hk⟩ := List.getElem?_of_mem h
  obtain ⟨rfl, lk⟩ := rngI_get hk
  omega
end SW
namespace SW
open PySem L2
/-! ### the row that is drawn from -/
def RowOk (r : List Int) : Prop := ∃ a b, r = [a, b] ∧ 0 ≤ b ∧ b < 2147483587
theorem p18 : powO 10 18 = some ((10 : Int) ^ (18 : Int).toNat) := ask_of (by decide)
theorem takeR {α : Type} {r : List Int} (h : RowOk r) {m : Int} (hm : 0 < m) (hm2 : m < 1073741824) : ∃ v r', RowOk r' ∧ 0 ≤ v ∧ v < m ∧ ∀ (k : Int × List Int → Option α), ((F__law_take r m).1.bind fun y => y.val.bind k) = k (v, r') := by
  obtain ⟨a, b, rfl, b0, b1⟩ := h
  have at0 : atI [a, b] 0 = some a := rfl
  have at1 : atI [a, b] 1 = some b := rfl
  by_cases c : (10 : Int) ^ (18 : Int).toNat < a
  · refine ⟨a % m, [a / m, b], ⟨_, _, rfl, b0, b1⟩, Int.emod_nonneg _ (by omega), Int.emod_lt_of_pos _ hm, fun k => ?_⟩
    unfold F__law_take
    simp only [bS, Option.bind_assoc, at0, p18]
    rw [decide_eq_true c]
    simp only [cT, modO_p hm, divO_p ⟨hm, hm2⟩, bS]
    have ej : ixN [a, b].length 0 = some 0 := rfl
    rw [ej]
    rfl
  · have e1 := Int.emod_nonneg (b * b + 69621 * b + 12345) (show (2147483587 : Int) ≠ 0 by decide)
    have e2 := Int.emod_lt_of_pos (b * b + 69621 * b + 12345) (show (0 : Int) < 2147483587 by decide)
    refine ⟨(b * b + 69621 * b + 12345) % 2147483587 / 8 % m, [a, (b * b + 69621 * b + 12345) % 2147483587], ⟨_, _, rfl, e1, e2⟩, Int.emod_nonneg _ (by omega), Int.emod_lt_of_pos _ hm, fun k => ?_⟩
    unfold F__law_take
    simp only [bS, Option.bind_assoc, at0, at1, p18]
    rw [decide_eq_false c]
    simp only [cF, bS, mulO_l (x := b) (y := b) ⟨by omega, by omega⟩, mulO_l (x := 69621) (by decide), modO_p (y := 2147483587) (by decide)]
    have ej : ixN [a, b].length 1 = some 1 := rfl
    rw [ej]
    simp only [bS]
    have at2 : ∀ v, atI (([a, b] : List Int).set 1 v) 1 = some v := fun v => rfl
    rw [at2]
    simp only [bS, divO_p (y := 8) (by decide), modO_p hm]
    rfl
theorem takeN {α : Type} {r : List Int} (h : RowOk r) {n : Nat} (hm : 0 < n) (hm2 : n < 1000000) : ∃ (v : Nat) (r' : List Int), RowOk r' ∧ v < n ∧ ∀ (k : Int × List Int → Option α), ((F__law_take r (n : Int)).1.bind fun y => y.val.bind k) = k ((v : Int), r') := by
  obtain ⟨v, r', o, v0, v1, q⟩ := takeR (α := α) h (m := (n : Int)) (by omega) (by omega)
  exact ⟨v.toNat, r', o, by omega, fun k => by rw [q, show ((v.toNat : Nat) : Int) = v by omega]⟩
theorem takeI {α : Type} {r : List Int} (h : RowOk r) (m : Int) (hm : 0 < m) (hm2 : m < 1000000) : ∃ (v : Nat) (r' : List Int), RowOk r' ∧ (v : Int) < m ∧ ∀ (k : Int × List Int → Option α), ((F__law_take r m).1.bind fun y => y.val.bind k) = k ((v : Int), r') := by
  obtain ⟨v, r', o, v0, v1, q⟩ := takeR (α := α) h (m := m) hm (by omega)
  exact ⟨v.toNat, r', o, by omega, fun k => by rw [q, show ((v.toNat : Nat) : Int) = v by omega]⟩
theorem row_ok (c : Int) : ∃ r, RowOk r ∧ ((F__law_row c).1.bind Out.pv) = some r := by
  refine ⟨[c, c % 2147483587], ⟨_, _, rfl, Int.emod_nonneg _ (by decide), Int.emod_lt_of_pos _ (by decide)⟩, ?_⟩
  unfold F__law_row
  simp only [bS, Option.bind_assoc, modO_p (y := 2147483587) (by decide)]
  rw [ask_of (by show 2 ≤ 1000; decide), bS]
  rfl
theorem sortU_nodup (l : List Int) : (sortU l).Nodup := (sortI_perm _).nodup_iff.mpr (uq_nodup l)
theorem sortU_mem {l : List Int} {k : Int} : k ∈ sortU l ↔ k ∈ l := (sortI_perm _).mem_iff.trans mem_uq
theorem sortU_len (l : List Int) : (sortU l).length ≤ l.length := by
  unfold sortU
  rw [(sortI_perm _).length_eq]
  exact uq_len l
theorem pos_of_mem {α : Type} {l : List α} {x : α} (h : x ∈ l) : 0 < l.length := List.length_pos_of_mem h
theorem pick {α : Type} {l : List α} {v : Nat} (h : v < l.length) : ∃ x, atI l (v : Int) = some x ∧ x ∈ l := ⟨l[v], atI_nat h, List.getElem_mem _⟩
theorem net31 {r : List Int} (hr : RowOk r) : ∃ n r', RowOk r' ∧ NetG n ∧ ((F__law_net r).1.bind Out.val) = some (n, r') := by
  unfold F__law_net
  simp only [bS, Option.bind_assoc]
  obtain ⟨v1, r1, o1, l1, q1⟩ := takeI (α := Net × List Int) hr 6 (by decide) (by decide)
  rw [q1]
  obtain ⟨v2, r2, o2, l2, q2⟩ := takeI (α := Net × List Int) o1 4 (by decide) (by decide)
  rw [ask_of (by show 4 ≤ 1000; decide), bS, q2]
  obtain ⟨step, es, ms⟩ := pick (l := ([1, 3, 10, 100] : List Int)) (v := v2) (by show v2 < 4; omega)
  rw [es, bS]
  have hst : 1 ≤ step ∧ step ≤ 100 ∧ (step / 100 = 0 ∨ step / 100 = 1) := by
    simp only [List.mem_cons, List.not_mem_nil, or_false] at ms
    omega
  have e1 : (1 : Int) + (v1 : Int) = ((v1 + 1 : Nat) : Int) := by omega
  rw [e1, ask_of (by unfold small; constructor <;> omega), bS, ask_le (by rw [rngI_len]; omega)]
  obtain ⟨bs, r3, ec, o3, lc, hb⟩ := compX_ok (f := fun (m6 : List Int) (x7 : Int) => (F__law_take m6 2).1.bind fun y => y.val.bind fun y => (mulO step (x7 + y.1)).bind fun y_5 => (ask (([0, 7] : List Int).length ≤ 1000) (some [0, 7])).bind fun y_6 => (divO step 100).bind fun y_7 => (atI y_6 y_7).bind fun y_8 => some (y_5 + y_8, y.2))
    RowOk (fun c => 0 ≤ c ∧ c ≤ 999) (rngI 0 ((v1 + 1 : Nat) : Int)) r2 o2 fun x hx m hm => by
      have rx := rngI_mem hx
      obtain ⟨v, r', o, l, q⟩ := takeI (α := Int × List Int) hm 2 (by decide) (by decide)
      have lo : ∀ t : Int, step * t ≥ 0 ∨ t < 0 := fun t => by
        by_cases c : t < 0
        · exact .inr c
        · exact .inl (Int.mul_nonneg (by omega) (by omega))
      have hi : step * (x + v) ≤ 100 * 6 := by
        refine Int.le_trans (Int.mul_le_mul_of_nonneg_right hst.2.1 (by omega)) ?_
        omega
      have lo' : 0 ≤ step * (x + v) := Int.mul_nonneg (by omega) (by omega)
      rcases hst.2.2 with z | z
      · refine ⟨step * (x + v) + 0, r', ?_, o, by omega⟩
        rw [q, mulO_l ⟨by omega, by omega⟩, bS, ask_of (by show 2 ≤ 1000; decide), bS, divO_p (by decide), bS, z]
        rfl
      · refine ⟨step * (x + v) + 7, r', ?_, o, by omega⟩
        rw [q, mulO_l ⟨by omega, by omega⟩, bS, ask_of (by show 2 ≤ 1000; decide), bS, divO_p (by decide), bS, z]
        rfl
  rw [ec, bS]
  rw [rngI_len] at lc
  rw [ask_of (by show bs.length < 64; omega), bS]
  have b1 : (sortU bs).Nodup := sortU_nodup bs
  have b2 : ∀ n ∈ sortU bs, 0 ≤ n ∧ n ≤ 999 := fun n hn => hb n (sortU_mem.mp hn)
  have b3 : (sortU bs).length ≤ 6 := by have := sortU_len bs; omega
  have b4 : 1 ≤ (sortU bs).length := by
    have : 0 < bs.length := by omega
    obtain ⟨x, hx⟩ := List.exists_mem_of_length_pos this
    exact pos_of_mem (sortU_mem.mpr hx)
  dsimp only
  generalize sortU bs = B at *
  obtain ⟨v4, r4, o4, l4, q4⟩ := takeI (α := Net × List Int) o3 10 (by decide) (by decide)
  rw [q4, ask_of (by unfold small; constructor <;> omega), bS]
  refine pforB (P := fun o : Option (Net × List Int) => ∃ n r', RowOk r' ∧ NetG n ∧ o = some (n, r')) (fun k m => RowOk m.1 ∧ m.2.length ≤ k ∧ ∀ t ∈ m.2, TieG B t) ⟨o4, Nat.le_refl _, fun t h => (by cases h)⟩ (fun k x m hx ⟨i1, i2, i3⟩ => ?_) fun m21 ⟨i1, i2, i3⟩ => ?_
  · obtain ⟨_, lk⟩ := rngI_get hx
    obtain ⟨w1, s1, p1, m1, u1⟩ := takeN (α := Out (List Int × List Tie) (List Int × List Tie) (List Int × List Tie) Net (List Int)) i1 (n := B.length) (by omega) (by omega)
    rw [u1]
    obtain ⟨x1, f1, g1⟩ := pick (l := B) m1
    rw [f1, bS]
    obtain ⟨w2, s2, p2, m2, u2⟩ := takeN (α := Out (List Int × List Tie) (List Int × List Tie) (List Int × List Tie) Net (List Int)) p1 (n := B.length) (by omega) (by omega)
    rw [u2]
    obtain ⟨x2, f2, g2⟩ := pick (l := B) m2
    rw [f2, bS]
    obtain ⟨w3, s3, p3, m3, u3⟩ := takeI (α := Out (List Int × List Tie) (List Int × List Tie) (List Int × List Tie) Net (List Int)) p2 4 (by decide) (by decide)
    rw [u3]
    obtain ⟨w4, s4, p4, m4, u4⟩ := takeI (α := Out (List Int × List Tie) (List Int × List Tie) (List Int × List Tie) Net (List Int)) p3 1000 (by decide) (by decide)
    rw [u4]
    obtain ⟨w5, s5, p5, m5, u5⟩ := takeI (α := Out (List Int × List Tie) (List Int × List Tie) (List Int × List Tie) Net (List Int)) p4 5 (by decide) (by decide)
    rw [u5]
    obtain ⟨cost, fc, gc⟩ := pick (l := ([1, 1, 2, 1 + (w3 : Int), 1 + (w4 : Int)] : List Int)) (v := w5) (by show w5 < 5; omega)
    have hc : 1 ≤ cost ∧ cost ≤ 1000 := by
      simp only [List.mem_cons, List.not_mem_nil, or_false] at gc
      omega
    rw [fc, bS]
    by_cases c : x1 = x2
    · rw [decide_eq_true c]
      exact ⟨_, rfl, p5, by show m.2.length ≤ _; omega, i3⟩
    · rw [decide_eq_false c]
      simp only [nF, cT]
      rw [ask_sz (by omega)]
      refine ⟨_, rfl, p5, by show (m.2 ++ [_]).length ≤ _; rw [List.length_append, List.length_singleton]; omega, fun t ht => ?_⟩
      rcases List.mem_append.mp ht with h | h
      · exact i3 t h
      · rw [List.mem_singleton.mp h]
        exact ⟨g1, g2, c, hc⟩
  rw [rngI_len] at i2
  rw [ask_of (by unfold small; constructor <;> constructor <;> omega)]
  simp only [bS, Option.bind_assoc]
  refine pforB (P := fun o : Option (Net × List Int) => ∃ n r', RowOk r' ∧ NetG n ∧ o = some (n, r')) (fun k m => RowOk m.1 ∧ m.2.length ≤ m21.2.length + k ∧ ∀ t ∈ m.2, TieG B t) ⟨i1, Nat.le_refl _, i3⟩ (fun k x m hx ⟨j1, j2, j3⟩ => ?_) fun m28 ⟨j1, j2, j3⟩ => ?_
  · obtain ⟨rfl, lk⟩ := rngI1_get hx
    obtain ⟨w1, s1, p1, m1, u1⟩ := takeI (α := Out (List Int × List Tie) (List Int × List Tie) (List Int × List Tie) Net (List Int)) j1 4 (by decide) (by decide)
    rw [u1]
    by_cases c : (0 : Int) < (w1 : Int)
    · rw [decide_eq_true c, cond_true]
      obtain ⟨w2, s2, p2, m2, u2⟩ := takeN (α := Out (List Int × List Tie) (List Int × List Tie) (List Int × List Tie) Net (List Int)) p1 (n := k + 1) (by omega) (by omega)
      rw [u2]
      obtain ⟨x2, f2, g2⟩ := pick (l := B) (v := w2) (by omega)
      rw [f2, bS]
      obtain ⟨x3, f3, g3⟩ := pick (l := B) (v := k + 1) lk
      rw [f3, bS]
      obtain ⟨w4, s4, p4, m4, u4⟩ := takeI (α := Out (List Int × List Tie) (List Int × List Tie) (List Int × List Tie) Net (List Int)) p2 3 (by decide) (by decide)
      rw [u4, ask_sz (by omega)]
      have ne : x2 ≠ x3 := fun z => by
        have e2 : B[w2]? = some x2 := by
          rw [atI_nat (by omega)] at f2
          rw [List.getElem?_eq_getElem (by omega)]; exact f2
        have e3 : B[k + 1]? = some x3 := by
          rw [atI_nat lk] at f3
          rw [List.getElem?_eq_getElem lk]; exact f3
        rw [← z] at e3
        have := nodup_inj b1 e2 e3
        omega
      refine ⟨_, rfl, p4, by show (m.2 ++ [_]).length ≤ _; rw [List.length_append, List.length_singleton]; omega, fun t ht => ?_⟩
      rcases List.mem_append.mp ht with h | h
      · exact j3 t h
      · rw [List.mem_singleton.mp h]
        exact ⟨g2, g3, ne, by show 1 ≤ 1 + (w4 : Int); omega, by show 1 + (w4 : Int) ≤ 1000; omega⟩
    · rw [decide_eq_false c, cond_false]
      exact ⟨_, rfl, p1, by show m.2.length ≤ _; omega, j3⟩
  · have lr : (rngI 1 (B.length : Int)).length = B.length - 1 := by
      unfold rngI
      rw [List.length_map, List.length_range]
      omega
    rw [lr] at j2
    obtain ⟨em, gm⟩ := make_eq B m28.2 b1 b2 b4 (by omega) (by omega) j3
    simp only [Option.bind_assoc]
    rw [pvQ em]
    exact ⟨_, m28.1, j1, gm, rfl⟩
end SW
namespace SW
open PySem L2
abbrev Adj : Type := Dct Int (List (T2 Int Int))
/-- every tie joins what was not joined ahead of it -/
def FreeE (E : List (T2 Int Int)) : Prop := ∀ (i : Nat) (x : T2 Int Int), E[i]? = some x → ∃ P : Int → Prop, (∀ y ∈ E.take i, (P y.a ↔ P y.b)) ∧ ¬ (P x.a ↔ P x.b)
theorem popL_some {α : Type} {xs : List α} (h : xs ≠ []) : ∃ v, popL xs = some (v, xs.eraseIdx (xs.length - 1)) ∧ v ∈ xs := by
  have l := List.length_pos_iff.mpr h
  refine ⟨xs[xs.length - 1], ?_, List.getElem_mem _⟩
  unfold popL
  rw [List.getElem?_eq_getElem (by omega)]
  rfl
theorem dp_new {κ α : Type} [DecidableEq κ] {x : Dct κ α} {k : κ} {v : α} (h : dg x k = none) : (dp x k v).l = x.l ++ [(k, v)] := by
  have go : ∀ l : List (κ × α), lg l k = none → lp l k v = l ++ [(k, v)] := fun l => by
    induction l with
    | nil => intro _; rfl
    | cons p r ih =>
      obtain ⟨q, u⟩ := p
      intro e
      have e : (if q = k then some u else lg r k) = none := e
      by_cases c : q = k
      · rw [if_pos c] at e; cases e
      · rw [if_neg c] at e
        show (if q = k then (q, v) :: r else (q, u) :: lp r k v) = _
        rw [if_neg c, ih e]
        rfl
  exact go _ h
theorem dg_key {κ α : Type} [DecidableEq κ] {x : Dct κ α} {k : κ} : k ∈ x.keys ↔ (dg x k).isSome = true := by
  constructor
  · intro h
    cases e : dg x k with
    | some v => rfl
    | none => exact absurd h (lg_none.mp (show lg x.l k = none from e))
  · intro h
    obtain ⟨v, e⟩ := Option.isSome_iff_exists.mp h
    exact List.mem_map.mpr ⟨(k, v), lg_mem (show lg x.l k = some v from e), rfl⟩
end SW
namespace SW
open PySem L2
/-- what stands in the dict of ties -/
structure TdI (E : List (T2 Int Int)) (i : Nat) (tied : Adj) : Prop where
  ed : ∀ x, ∀ t ∈ (dg tied x).getD [], ∃ y ∈ E.take i, (x = y.a ∧ t.b = y.b) ∨ (x = y.b ∧ t.b = y.a)
  ln : ∀ x, ((dg tied x).getD []).length ≤ 2 * i
  sz : tied.l.length ≤ 2 * i
/-- x[k] has one more -/
def addA (x : Adj) (k : Int) (t : T2 Int Int) : Adj := dp (sdf x k []) k ((dg x k).getD [] ++ [t])
theorem addA_dg (x : Adj) (k : Int) (t : T2 Int Int) (j : Int) : (dg (addA x k t) j).getD [] = if k = j then (dg x k).getD [] ++ [t] else (dg x j).getD [] := by
  unfold addA
  rw [dg_dp]
  by_cases c : k = j
  · rw [if_pos c, if_pos c]; rfl
  · rw [if_neg c, if_neg c]
    unfold sdf
    rw [dg_dp, if_neg c]
theorem lp_len2 {κ α : Type} [DecidableEq κ] (k : κ) (v w : α) : ∀ l : List (κ × α), (lp (lp l k v) k w).length ≤ l.length + 1
  | [] => by
    show (if k = k then [(k, w)] else _).length ≤ 1
    rw [if_pos rfl]
    exact Nat.le_refl _
  | (q, u) :: r => by
    show (lp (if q = k then (q, v) :: r else (q, u) :: lp r k v) k w).length ≤ _
    by_cases c : q = k
    · rw [if_pos c]
      show (if q = k then (q, w) :: r else _).length ≤ _
      rw [if_pos c]
      show r.length + 1 ≤ r.length + 1 + 1
      omega
    · rw [if_neg c]
      show (if q = k then (q, w) :: lp r k v else (q, u) :: lp (lp r k v) k w).length ≤ _
      rw [if_neg c]
      have := lp_len2 k v w r
      show (lp (lp r k v) k w).length + 1 ≤ r.length + 1 + 1
      omega
theorem addA_len (x : Adj) (k : Int) (t : T2 Int Int) : (addA x k t).l.length ≤ x.l.length + 1 := lp_len2 k _ _ x.l
theorem TdI.add {E : List (T2 Int Int)} {i : Nat} {tied : Adj} (h : TdI E i tied) {x : T2 Int Int} (hx : E[i]? = some x) {y : T2 Int Int} (hy : y = x ∨ y = ⟨x.b, x.a⟩) (p : Int) (ne : x.a ≠ x.b) :
    TdI E (i + 1) (addA (addA tied y.a ⟨p, y.b⟩) y.b ⟨p, y.a⟩) := by
  have tk : E.take (i + 1) = E.take i ++ [x] := by rw [List.take_add_one, hx]; rfl
  have yne : y.a ≠ y.b := by
    rcases hy with e | e
    · rw [e]; exact ne
    · rw [e]; exact fun z => ne z.symm
  refine ⟨fun z t ht => ?_, fun z => ?_, ?_⟩
  · have old : ∀ {z t}, t ∈ (dg tied z).getD [] → ∃ y ∈ E.take (i + 1), (z = y.a ∧ t.b = y.b) ∨ (z = y.b ∧ t.b = y.a) := fun {z t} m => by
      obtain ⟨y, hy, q⟩ := h.ed z t m
      exact ⟨y, by rw [tk]; exact List.mem_append_left _ hy, q⟩
    have xm : x ∈ E.take (i + 1) := by rw [tk]; exact List.mem_append_right _ (List.mem_singleton.mpr rfl)
    rw [addA_dg] at ht
    by_cases c : y.b = z
    · rw [if_pos c, addA_dg, if_neg yne] at ht
      rcases List.mem_append.mp ht with m | m
      · rw [c] at m; exact old m
      · rw [List.mem_singleton.mp m]
        refine ⟨x, xm, ?_⟩
        rcases hy with e | e
        · rw [e] at c ⊢; exact .inr ⟨c.symm, rfl⟩
        · rw [e] at c ⊢; exact .inl ⟨c.symm, rfl⟩
    · rw [if_neg c, addA_dg] at ht
      by_cases c2 : y.a = z
      · rw [if_pos c2] at ht
        rcases List.mem_append.mp ht with m | m
        · rw [c2] at m; exact old m
        · rw [List.mem_singleton.mp m]
          refine ⟨x, xm, ?_⟩
          rcases hy with e | e
          · rw [e] at c2 ⊢; exact .inl ⟨c2.symm, rfl⟩
          · rw [e] at c2 ⊢; exact .inr ⟨c2.symm, rfl⟩
      · rw [if_neg c2] at ht
        exact old ht
  · have l0 := fun z => h.ln z
    rw [addA_dg]
    by_cases c : y.b = z
    · rw [if_pos c, addA_dg, if_neg yne, List.length_append, List.length_singleton]
      have := l0 y.b
      omega
    · rw [if_neg c, addA_dg]
      by_cases c2 : y.a = z
      · rw [if_pos c2, List.length_append, List.length_singleton]
        have := l0 y.a
        omega
      · rw [if_neg c2]
        have := l0 z
        omega
  · have a := addA_len tied y.a ⟨p, y.b⟩
    have b := addA_len (addA tied y.a ⟨p, y.b⟩) y.b ⟨p, y.a⟩
    have := h.sz
    omega
end SW
namespace SW
open PySem L2
theorem dOf_app {κ α : Type} [DecidableEq κ] (xs : List (T2 κ α)) : ∀ (l : List (κ × α)), ((l.map fun p => p.1) ++ xs.map fun x => x.a).Nodup → (xs.foldl (fun (d : Dct κ α) x => dp d x.a x.b) l : List (κ × α)) = l ++ xs.map fun x => (x.a, x.b) := by
  induction xs with
  | nil => intro l _; rw [List.map_nil, List.append_nil]; rfl
  | cons x xs ih =>
    intro l n
    have nx : x.a ∉ l.map fun p => p.1 := fun h => by
      rw [List.nodup_append] at n
      exact n.2.2 _ h _ List.mem_cons_self rfl
    have e : (dp (l : Dct κ α) x.a x.b : List (κ × α)) = l ++ [(x.a, x.b)] := lp_new nx
    show (xs.foldl _ (dp (l : Dct κ α) x.a x.b) : List (κ × α)) = _
    rw [e, ih (l ++ [(x.a, x.b)]) (by
      rw [List.map_append, List.append_assoc]
      exact n), List.append_assoc]
    rfl
theorem dOf_eq {κ α : Type} [DecidableEq κ] {xs : List (T2 κ α)} (n : (xs.map fun x => x.a).Nodup) : (dOf xs).l = xs.map fun x => (x.a, x.b) := dOf_app xs [] n
end SW
namespace SW
open PySem L2
/-- a walk that may end with an answer -/
theorem forR {M C B ρ Θ α : Type} {f : M → α → Option (Out M M M ρ Θ)} {P : Option (Out M C B ρ Θ) → Prop} (I : Nat → M → Prop) {xs : List α} {m0 : M} (h0 : I 0 m0) (step : ∀ i x m, xs[i]? = some x → I i m → (∃ m', f m x = some (.nx m') ∧ I (i + 1) m') ∨ ∃ v θ, f m x = some (.rt v θ) ∧ P (some (.rt v θ))) (h : ∀ m, I xs.length m → P (some (.nx m))) : P (forO f xs m0) := by
  have go : ∀ (ys : List α) (k : Nat) (m : M), (∀ i : Nat, xs[k + i]? = ys[i]?) → k + ys.length = xs.length → I k m → P (forO f ys m) := by
    intro ys
    induction ys with
    | nil => intro k m _ l i; exact h m (by rw [← l]; exact i)
    | cons y ys ih =>
      intro k m hx l i
      rcases step k y m (hx 0) i with ⟨m1, e1, h1⟩ | ⟨v, θ, e1, h1⟩
      · show P ((f m y).bind _)
        rw [e1]
        exact ih (k + 1) m1 (fun i => by rw [Nat.add_assoc, Nat.add_comm 1 i]; exact hx (i + 1)) (by rw [List.length_cons] at l; omega) h1
      · show P ((f m y).bind _)
        rw [e1]
        exact h1
  exact go xs 0 m0 (fun i => by rw [Nat.zero_add]) (Nat.zero_add _) h0
theorem pforRB {M C B ρ Θ M0 α δ : Type} {f : M0 → α → Option (Out M0 M0 M0 ρ Θ)} {xs : List α} {m0 : M0} {k : M0 → Option (Out M C B ρ Θ)} {g : Out M C B ρ Θ → Option δ} {P : Option δ → Prop} (I : Nat → M0 → Prop) (h0 : I 0 m0) (step : ∀ i x m, xs[i]? = some x → I i m → (∃ m', f m x = some (.nx m') ∧ I (i + 1) m') ∨ ∃ v θ, f m x = some (.rt v θ) ∧ P (g (.rt v θ))) (h : ∀ m, I xs.length m → P ((k m).bind g)) : P ((forO f xs m0).bind fun y => (Out.go k y).bind g) :=
  forR (C := C) (B := B) (P := fun q : Option (Out M0 C B ρ Θ) => P (q.bind fun y => (Out.go k y).bind g)) I h0 (fun i x m hx im => by
    rcases step i x m hx im with z | ⟨v, θ, e, p⟩
    · exact .inl z
    · exact .inr ⟨v, θ, e, p⟩) h
end SW
namespace SW
open PySem L2
/-- gone along some ties, one behind the other -/
def walkE (n : Net) : Int → List Int → Option Int
  | h, [] => some h
  | h, p :: ps => match tieN n p with
    | none => none
    | some t => if h = t.a ∨ h = t.b then walkE n (t.a + t.b - h) ps else none
theorem walkE_snoc {n : Net} {p : Int} {t : Tie} (et : tieN n p = some t) : ∀ (ps : List Int) {h k : Int}, walkE n h ps = some k → (k = t.a ∨ k = t.b) → walkE n h (ps ++ [p]) = some (t.a + t.b - k)
  | [], h, k, e, z => by
    cases e
    show (match tieN n p with | none => none | some t => if h = t.a ∨ h = t.b then walkE n (t.a + t.b - h) [] else none) = _
    rw [et]
    exact if_pos z
  | q :: ps, h, k, e, z => by
    show (match tieN n q with | none => none | some t => if h = t.a ∨ h = t.b then walkE n (t.a + t.b - h) (ps ++ [p]) else none) = _
    have e : (match tieN n q with | none => none | some t => if h = t.a ∨ h = t.b then walkE n (t.a + t.b - h) ps else none) = some k := e
    cases eq : tieN n q with
    | none => rw [eq] at e; cases e
    | some u =>
      rw [eq] at e
      simp only at e ⊢
      by_cases c : h = u.a ∨ h = u.b
      · rw [if_pos c] at e ⊢
        exact walkE_snoc et ps e z
      · rw [if_neg c] at e; cases e
/-- the ties that stand in a dict of ties: those of some places, both ways -/
structure TdF (n : Net) (Q : List Int) (tied : Adj) : Prop where
  so : ∀ x, ∀ t ∈ (dg tied x).getD [], t.a ∈ Q ∧ ∃ T, tieN n t.a = some T ∧ ((x = T.a ∧ t.b = T.b) ∨ (x = T.b ∧ t.b = T.a))
  co : ∀ p ∈ Q, ∀ T, tieN n p = some T → (⟨p, T.b⟩ : T2 Int Int) ∈ (dg tied T.a).getD [] ∧ (⟨p, T.a⟩ : T2 Int Int) ∈ (dg tied T.b).getD []
structure BfF (n : Net) (tied : Adj) (one : Int) (come : Dct Int (List Int)) (waits : List Int) (here : Option (Int × Nat)) : Prop where
  nd : come.keys.Nodup
  ke : ∀ k ∈ come.keys, k ∈ n.a.l
  wa : ∀ k ∈ waits, k ∈ come.keys
  wl : waits.length ≤ come.l.length
  on : one ∈ come.keys
  va : ∀ k v, dg come k = some v → v.length < come.l.length ∧ walkE n one v = some k ∧ v.Nodup ∧ ∀ p ∈ v, (∃ x, ∃ t ∈ (dg tied x).getD [], t.a = p ∧ x ∈ come.keys ∧ t.b ∈ come.keys)
  dn : ∀ k ∈ come.keys, k ∉ waits → (∀ h, here = some h → h.1 ≠ k) → ∀ t ∈ (dg tied k).getD [], t.b ∈ come.keys
  hd : ∀ h, here = some h → h.1 ∈ come.keys ∧ ∀ t ∈ ((dg tied h.1).getD []).take h.2, t.b ∈ come.keys
/-- what is told of a way between two bridges -/
theorem way_spec {n : Net} (o : NetOk n) {Q : List Int} {tied : Adj} (ht : TdF n Q tied) {one other : Int} (h1 : one ∈ n.a.l) : ∃ r, ((F_way_between tied one other).1.bind Out.pv) = some (⟨r⟩ : Op (List Int)) ∧
    (r = none → ∃ P : Int → Prop, P one ∧ ¬ P other ∧ ∀ p ∈ Q, ∀ T, tieN n p = some T → (P T.a ↔ P T.b)) ∧ (∀ v, r = some v → walkE n one v = some other ∧ v.Nodup ∧ (∀ p ∈ v, p ∈ Q) ∧ v.length ≤ 10) := by
  unfold F_way_between
  simp only [bS, Option.bind_assoc]
  rw [ask_of (by show 1 ≤ 1000; decide), bS]
  have nl := o.bl
  have nin : ∀ {x t}, t ∈ (dg tied x).getD [] → t.b ∈ n.a.l := fun {x t} m => by
    obtain ⟨_, T, et, z⟩ := ht.so x t m
    have tk := o.tie _ (tieN_rng et).2.2
    rcases z with ⟨_, e⟩ | ⟨_, e⟩
    · rw [e]; exact tk.2.1
    · rw [e]; exact tk.1
  have cl : ∀ {come : Dct Int (List Int)} {waits : List Int} {h}, BfF n tied one come waits h → come.l.length ≤ 10 := fun {come waits h} i => by
    have := nodup_le i.nd i.ke
    have e : come.keys.length = come.l.length := List.length_map _
    omega
  refine pwhileB (n := fuelW) (m0 := (d1v one [], [one])) (P := fun q : Option (Op (List Int)) => ∃ r, q = some ⟨r⟩ ∧ (r = none → ∃ P : Int → Prop, P one ∧ ¬ P other ∧ ∀ p ∈ Q, ∀ T, tieN n p = some T → (P T.a ↔ P T.b)) ∧ (∀ v, r = some v → walkE n one v = some other ∧ v.Nodup ∧ (∀ p ∈ v, p ∈ Q) ∧ v.length ≤ 10)) (fun m : Dct Int (List Int) × List Int => BfF n tied one m.1 m.2 none) (fun m => (10 - m.1.l.length) + m.2.length) ?_ (by rw [fuelW_eq]; show (10 - 1) + 1 < _; decide) (fun m _ => ⟨_, rfl⟩) (fun m i ht2 => ?_) fun m i hf => ?_
  · refine ⟨List.nodup_cons.mpr ⟨List.not_mem_nil, List.nodup_nil⟩, fun k hk => ?_, fun k hk => hk, Nat.le_refl _, List.mem_singleton.mpr rfl, fun k v e => ?_, fun k hk nk => ?_, fun h e => (by cases e)⟩
    · have : k = one := List.mem_singleton.mp hk
      rw [this]
      exact h1
    · have e : (if one = k then some ([] : List Int) else none) = some v := e
      split at e
      · rename_i c
        cases e
        refine ⟨by show 0 < 1; decide, by rw [← c]; rfl, List.nodup_nil, fun p hp => (by cases hp)⟩
      · cases e
    · exact absurd hk nk
  · have ne : m.2 ≠ [] := by
      have := Option.some.inj ht2
      rw [Bool.not_eq_true', decide_eq_false_iff_not] at this
      exact this
    obtain ⟨here, ep, hm⟩ := popL_some ne
    have lw := List.length_pos_iff.mpr ne
    have le : (m.2.eraseIdx (m.2.length - 1)).length = m.2.length - 1 := by
      rw [List.length_eraseIdx, if_pos (by omega)]
    have wsub : ∀ k ∈ m.2.eraseIdx (m.2.length - 1), k ∈ m.2 := fun k hk => List.mem_of_mem_eraseIdx hk
    have wre : ∀ k ∈ m.2, k = here ∨ k ∈ m.2.eraseIdx (m.2.length - 1) := fun k hk => by
      have ev : m.2[m.2.length - 1]? = some here := by
        unfold popL at ep
        cases e : m.2[m.2.length - 1]? with
        | none => rw [e] at ep; cases ep
        | some z => rw [e] at ep; cases ep; rfl
      obtain ⟨j, hj, ej⟩ := List.mem_iff_getElem.mp hk
      by_cases c : j = m.2.length - 1
      · refine .inl ?_
        rw [← c, List.getElem?_eq_getElem hj, ej] at ev
        exact Option.some.inj ev
      · refine .inr (List.mem_iff_getElem?.mpr ⟨j, ?_⟩)
        rw [List.getElem?_eraseIdx, if_pos (by omega), List.getElem?_eq_getElem hj, ej]
    rw [ep, bS]
    have hk := i.wa here hm
    simp only []
    refine pfor (m0 := (m.2.eraseIdx (m.2.length - 1), m.1)) (P := fun q : Option (Out (Dct Int (List Int) × List Int) (Dct Int (List Int) × List Int) (Dct Int (List Int) × List Int) (Op (List Int)) Unit) => ∃ m', q = some (Out.nx m') ∧ BfF n tied one m'.1 m'.2 none ∧ (10 - m'.1.l.length) + m'.2.length < (10 - m.1.l.length) + m.2.length) (fun j (s : List Int × Dct Int (List Int)) => BfF n tied one s.2 s.1 (some (here, j)) ∧ (10 - s.2.l.length) + s.1.length < (10 - m.1.l.length) + m.2.length) ⟨⟨i.nd, i.ke, fun k hk => i.wa k (wsub k hk), by have := i.wl; show (m.2.eraseIdx (m.2.length - 1)).length ≤ m.1.l.length; omega, i.on, i.va, fun k hk nk hh t mt => ?_, fun h e => ?_⟩, by show (10 - m.1.l.length) + (m.2.eraseIdx (m.2.length - 1)).length < (10 - m.1.l.length) + m.2.length; omega⟩ (fun j t s hj ⟨i1, i3⟩ => ?_) fun s ⟨i1, i3⟩ => ⟨_, rfl, ⟨i1.nd, i1.ke, i1.wa, i1.wl, i1.on, i1.va, fun k hk nk _ t mt => ?_, fun h e => (by cases e)⟩, i3⟩
    · refine i.dn k hk (fun z => ?_) (fun h e => by cases e) t mt
      rcases wre k z with e | e
      · exact hh _ rfl e.symm
      · exact nk e
    · cases e
      exact ⟨hk, fun t mt => (by rw [List.take_zero] at mt; cases mt)⟩
    · have tm := List.mem_of_getElem? hj
      have tk : ((dg tied here).getD []).take (j + 1) = ((dg tied here).getD []).take j ++ [t] := by rw [List.take_add_one, hj]; rfl
      have sl := cl i1
      have hS := i1.hd _ rfl
      cases e : dg s.2 t.b with
      | some v =>
        rw [show (some v : Option (List Int)).isNone = false from rfl, cF]
        refine .intro _ ⟨rfl, ⟨i1.nd, i1.ke, i1.wa, i1.wl, i1.on, i1.va, fun k hk nk hh => i1.dn k hk nk (fun h eh => by cases eh; exact hh (here, j + 1) rfl), fun h eh => ?_⟩, i3⟩
        cases eh
        refine ⟨hS.1, fun u mu => ?_⟩
        rw [tk] at mu
        rcases List.mem_append.mp mu with z | z
        · exact hS.2 u z
        · rw [List.mem_singleton.mp z]
          exact dg_key.mpr (by rw [e]; rfl)
      | none =>
        rw [show (none : Option (List Int)).isNone = true from rfl, cT]
        obtain ⟨w, ew⟩ := Option.isSome_iff_exists.mp (dg_key.mp hS.1)
        obtain ⟨wl, ww, wn, wp⟩ := i1.va here w ew
        have el : (dp s.2 t.b (w ++ [t.a])).l = s.2.l ++ [(t.b, w ++ [t.a])] := dp_new e
        have lq : (dp s.2 t.b (w ++ [t.a])).l.length = s.2.l.length + 1 := by rw [el, List.length_append]; rfl
        have ek : (dp s.2 t.b (w ++ [t.a])).keys = s.2.keys ++ [t.b] := by
          show (dp s.2 t.b (w ++ [t.a])).l.map (fun p => p.1) = _
          rw [el, List.map_append]
          rfl
        have up : ∀ {k}, k ∈ s.2.keys → k ∈ (dp s.2 t.b (w ++ [t.a])).keys := fun {k} hk => by rw [ek]; exact List.mem_append_left _ hk
        have new : t.b ∉ s.2.keys := fun z => by
          have := dg_key.mp z
          rw [e] at this
          cases this
        obtain ⟨tq, T, eT, tz⟩ := ht.so here t tm
        have i4 : BfF n tied one (dp s.2 t.b (w ++ [t.a])) (s.1 ++ [t.b]) (some (here, j + 1)) := by
          refine ⟨lp_nodup i1.nd, fun k hk => ?_, fun k hk => ?_, by have := i1.wl; rw [lq, List.length_append, List.length_singleton]; omega, up i1.on, fun k v ev => ?_, fun k hk nk hh u mu => ?_, fun h eh => ?_⟩
          · rw [ek] at hk
            rcases List.mem_append.mp hk with z | z
            · exact i1.ke k z
            · rw [List.mem_singleton.mp z]
              exact nin tm
          · rcases List.mem_append.mp hk with z | z
            · exact up (i1.wa k z)
            · rw [ek]; exact List.mem_append_right _ z
          · rw [dg_dp] at ev
            rw [lq]
            by_cases c : t.b = k
            · rw [if_pos c] at ev
              cases ev
              refine ⟨by rw [List.length_append, List.length_singleton]; omega, ?_, ?_, fun p hp => ?_⟩
              · have := walkE_snoc eT w ww (by
                  rcases tz with ⟨z, _⟩ | ⟨z, _⟩
                  · exact .inl z
                  · exact .inr z)
                rw [this, ← c]
                rcases tz with ⟨z1, z2⟩ | ⟨z1, z2⟩
                · rw [z1, z2]; exact congrArg some (by omega)
                · rw [z1, z2]; exact congrArg some (by omega)
              · rw [List.nodup_append]
                refine ⟨wn, List.nodup_cons.mpr ⟨List.not_mem_nil, List.nodup_nil⟩, fun a ha b hb eab => ?_⟩
                rw [List.mem_singleton.mp hb] at eab
                obtain ⟨x, u, mu, e1, e2, e3⟩ := wp a ha
                obtain ⟨_, U, eU, uz⟩ := ht.so x u mu
                rw [e1, eab, eT] at eU
                cases eU
                refine new ?_
                rcases tz with ⟨z1, z2⟩ | ⟨z1, z2⟩
                · rw [z2]
                  rcases uz with ⟨y1, y2⟩ | ⟨y1, y2⟩
                  · rw [← y2]; exact e3
                  · rw [← y1]; exact e2
                · rw [z2]
                  rcases uz with ⟨y1, y2⟩ | ⟨y1, y2⟩
                  · rw [← y1]; exact e2
                  · rw [← y2]; exact e3
              · rcases List.mem_append.mp hp with z | z
                · obtain ⟨x, u, mu, e1, e2, e3⟩ := wp p z
                  exact ⟨x, u, mu, e1, up e2, up e3⟩
                · rw [List.mem_singleton.mp z]
                  exact ⟨here, t, tm, rfl, up hS.1, by rw [ek]; exact List.mem_append_right _ (List.mem_singleton.mpr rfl)⟩
            · rw [if_neg c] at ev
              obtain ⟨a1, a2, a3, a4⟩ := i1.va k v ev
              exact ⟨by omega, a2, a3, fun p hp => by
                obtain ⟨x, u, mu, e1, e2, e3⟩ := a4 p hp
                exact ⟨x, u, mu, e1, up e2, up e3⟩⟩
          · rw [ek] at hk
            rcases List.mem_append.mp hk with z | z
            · exact up (i1.dn k z (fun q => nk (List.mem_append_left _ q)) (fun h eh => by cases eh; exact hh (here, j + 1) rfl) u mu)
            · exact absurd (List.mem_append_right _ z) nk
          · cases eh
            refine ⟨up hS.1, fun u mu => ?_⟩
            rw [tk] at mu
            rcases List.mem_append.mp mu with z | z
            · exact up (hS.2 u z)
            · rw [List.mem_singleton.mp z, ek]
              exact List.mem_append_right _ (List.mem_singleton.mpr rfl)
        have c10 := cl i4
        have sz : 1000 ≤ sizeLine := by decide
        have wl3 : s.1.length < sizeLine := by
          have := i1.wl
          omega
        rw [ew, bS, ask_of (by show 1 ≤ 1000; decide), bS, ask_of (by rw [List.length_singleton]; omega), bS, ask_of (by omega), ask_of wl3]
        refine ⟨_, rfl, i4, ?_⟩
        show (10 - (dp s.2 t.b (w ++ [t.a])).l.length) + (s.1 ++ [t.b]).length < _
        rw [List.length_append, List.length_singleton]
        omega
    · by_cases c : here = k
      · have := (i1.hd _ rfl).2
        simp only [List.take_length] at this
        rw [← c] at mt
        exact this t mt
      · exact i1.dn k hk nk (fun h eh => by cases eh; exact c) t mt
  · have we : m.2 = [] := by
      have := Option.some.inj hf
      rw [Bool.not_eq_false', decide_eq_true_eq] at this
      exact this
    simp only [Out.go, bS, pvR]
    have cm := cl i
    refine ⟨_, rfl, fun e => ?_, fun v e => ?_⟩
    · refine ⟨fun x => x ∈ m.1.keys, i.on, fun z => ?_, fun p hp T et => ?_⟩
      · have := dg_key.mp z
        rw [e] at this
        cases this
      · obtain ⟨c1, c2⟩ := ht.co p hp T et
        have cls : ∀ k ∈ m.1.keys, ∀ t ∈ (dg tied k).getD [], t.b ∈ m.1.keys := fun k hk => i.dn k hk (by rw [we]; exact List.not_mem_nil) (fun h eh => by cases eh)
        exact ⟨fun z => cls _ z _ c1, fun z => cls _ z _ c2⟩
    · obtain ⟨a1, a2, a3, a4⟩ := i.va other v e
      exact ⟨a2, a3, fun p hp => by
        obtain ⟨x, u, mu, e1, _, _⟩ := a4 p hp
        rw [← e1]
        exact (ht.so x u mu).1, by omega⟩
end SW
namespace SW
open PySem L2
/-- the ties of some places, as pairs -/
def EdgOk (n : Net) (ps : List Int) (E : List (T2 Int Int)) : Prop := E.length = ps.length ∧ ∀ (i : Nat) (p : Int), ps[i]? = some p → ∃ T, tieN n p = some T ∧ E[i]? = some ⟨T.a, T.b⟩
theorem TdF.add {n : Net} (o : NetOk n) {ps : List Int} {i : Nat} {tied : Adj} (h : TdF n (ps.take i) tied) {p : Int} (hp : ps[i]? = some p) {T : Tie} (et : tieN n p = some T) : TdF n (ps.take (i + 1)) (addA (addA tied T.a ⟨p, T.b⟩) T.b ⟨p, T.a⟩) := by
  have tk : ps.take (i + 1) = ps.take i ++ [p] := by rw [List.take_add_one, hp]; rfl
  have pm : p ∈ ps.take (i + 1) := by rw [tk]; exact List.mem_append_right _ (List.mem_singleton.mpr rfl)
  have up : ∀ {q}, q ∈ ps.take i → q ∈ ps.take (i + 1) := fun {q} hq => by rw [tk]; exact List.mem_append_left _ hq
  have ne : T.a ≠ T.b := by
    have := (o.tie _ (tieN_rng et).2.2).2.2.1
    omega
  have dg2 : ∀ z, (dg (addA (addA tied T.a ⟨p, T.b⟩) T.b ⟨p, T.a⟩) z).getD [] = if T.b = z then (dg tied T.b).getD [] ++ [⟨p, T.a⟩] else if T.a = z then (dg tied T.a).getD [] ++ [⟨p, T.b⟩] else (dg tied z).getD [] := fun z => by
    rw [addA_dg, addA_dg, if_neg ne, addA_dg]
  have old : ∀ {z t}, t ∈ (dg tied z).getD [] → t ∈ (dg (addA (addA tied T.a ⟨p, T.b⟩) T.b ⟨p, T.a⟩) z).getD [] := fun {z t} m => by
    rw [dg2]
    by_cases c : T.b = z
    · rw [if_pos c, c]; exact List.mem_append_left _ m
    · rw [if_neg c]
      by_cases c2 : T.a = z
      · rw [if_pos c2, c2]; exact List.mem_append_left _ m
      · rw [if_neg c2]; exact m
  refine ⟨fun z t ht => ?_, fun q hq U eU => ?_⟩
  · rw [dg2] at ht
    have lift : t ∈ (dg tied z).getD [] → t.a ∈ ps.take (i + 1) ∧ ∃ T, tieN n t.a = some T ∧ ((z = T.a ∧ t.b = T.b) ∨ (z = T.b ∧ t.b = T.a)) := fun m => by
      obtain ⟨a, b⟩ := h.so z t m
      exact ⟨up a, b⟩
    by_cases c : T.b = z
    · rw [if_pos c] at ht
      rcases List.mem_append.mp ht with m | m
      · rw [c] at m; exact lift m
      · rw [List.mem_singleton.mp m]
        exact ⟨pm, T, et, .inr ⟨c.symm, rfl⟩⟩
    · rw [if_neg c] at ht
      by_cases c2 : T.a = z
      · rw [if_pos c2] at ht
        rcases List.mem_append.mp ht with m | m
        · rw [c2] at m; exact lift m
        · rw [List.mem_singleton.mp m]
          exact ⟨pm, T, et, .inl ⟨c2.symm, rfl⟩⟩
      · rw [if_neg c2] at ht
        exact lift ht
  · rw [tk] at hq
    rcases List.mem_append.mp hq with z | z
    · obtain ⟨c1, c2⟩ := h.co q z U eU
      exact ⟨old c1, old c2⟩
    · have z := List.mem_singleton.mp z
      subst z
      rw [et] at eU
      cases eU
      constructor
      · rw [dg2, if_neg ne.symm, if_pos rfl]
        exact List.mem_append_right _ (List.mem_singleton.mpr rfl)
      · rw [dg2, if_pos rfl]
        exact List.mem_append_right _ (List.mem_singleton.mpr rfl)
structure RingP (n : Net) (ps ring : List Int) : Prop where
  two : 2 ≤ ring.length
  nd : ring.Nodup
  sub : ∀ p ∈ ring, p ∈ ps
  sz : ring.length ≤ 11
  go : ∃ one, walkE n one ring = some one
/-- what ring_of tells -/
theorem ring_spec {n : Net} (o : NetOk n) {ps : List Int} {E : List (T2 Int Int)} (hE : EdgOk n ps E) (nd : ps.Nodup) (hl : ps.length ≤ 100) : ∃ r, ((F_ring_of n ps).1.bind Out.pv) = some (⟨r⟩ : Op (List Int)) ∧ (r = none → FreeE E) ∧ (∀ v, r = some v → RingP n ps v ∧ ¬ FreeE E) := by
  unfold F_ring_of
  simp only [bS, Option.bind_assoc]
  obtain ⟨lE, he⟩ := hE
  refine pforRB (m0 := d0) (P := fun q : Option (Op (List Int)) => ∃ r, q = some ⟨r⟩ ∧ (r = none → FreeE E) ∧ (∀ v, r = some v → RingP n ps v ∧ ¬ FreeE E)) (fun i (m : Adj) => TdF n (ps.take i) m ∧ TdI E i m ∧ ∀ (j : Nat) (x : T2 Int Int), j < i → E[j]? = some x → ∃ P : Int → Prop, (∀ y ∈ E.take j, (P y.a ↔ P y.b)) ∧ ¬ (P x.a ↔ P x.b)) ⟨⟨fun x t ht => (by cases ht), fun p hp => (by rw [List.take_zero] at hp; cases hp)⟩, ⟨fun x t ht => (by cases ht), fun x => Nat.zero_le _, Nat.zero_le _⟩, fun j x hj => absurd hj (Nat.not_lt_zero _)⟩ (fun i p m hx ⟨i1, i2, i3⟩ => ?_) fun m ⟨_, _, i3⟩ => ⟨none, rfl, fun _ j x hx => i3 j x (by rw [← lE]; exact (List.getElem?_eq_some_iff.mp hx).1) hx, fun v e => (by cases e)⟩
  have lp := (List.getElem?_eq_some_iff.mp hx).1
  have li : i < 100 := Nat.lt_of_lt_of_le lp hl
  obtain ⟨T, et, ex⟩ := he i p hx
  have ea := tieN_at et o.tl
  have tk := o.tie _ (tieN_rng et).2.2
  have ne : T.a ≠ T.b := by omega
  have tkp : ps.take (i + 1) = ps.take i ++ [p] := by rw [List.take_add_one, hx]; rfl
  have pn : p ∉ ps.take i := fun z => by
    obtain ⟨j, hj, ej⟩ := List.mem_iff_getElem.mp z
    rw [List.length_take] at hj
    have : ps[j]? = some p := by
      rw [← ej, List.getElem_take]
      exact List.getElem?_eq_getElem (by omega)
    have := nodup_inj nd this hx
    omega
  rw [ea, bS]
  obtain ⟨r, er, r1, r2⟩ := way_spec o i1 (one := T.a) (other := T.b) tk.1
  rw [pvQ er]
  have sz : 1000 ≤ sizeLine := by decide
  cases hr : r with
  | some v =>
    subst hr
    obtain ⟨w1, w2, w3, w4⟩ := r2 v rfl
    simp only [Option.isSome_some, cT, bS]
    rw [ask_of (by show 1 ≤ 1000; decide), bS, ask_of (by rw [List.length_singleton]; omega), bS]
    have vne : v ≠ [] := fun z => by
      rw [z] at w1
      have w1 : some T.a = some T.b := w1
      exact ne (Option.some.inj w1)
    have vl := List.length_pos_iff.mpr vne
    refine .inr ⟨_, _, rfl, some (v ++ [p]), rfl, fun z => (by cases z), fun u eu => ?_⟩
    cases eu
    refine ⟨⟨by rw [List.length_append, List.length_singleton]; omega, ?_, fun q hq => ?_, by rw [List.length_append, List.length_singleton]; omega, T.a, ?_⟩, fun fr => ?_⟩
    · rw [List.nodup_append]
      exact ⟨w2, List.nodup_cons.mpr ⟨List.not_mem_nil, List.nodup_nil⟩, fun a ha b hb e => pn (by rw [List.mem_singleton.mp hb] at e; rw [← e]; exact w3 a ha)⟩
    · rcases List.mem_append.mp hq with z | z
      · exact List.mem_of_mem_take (w3 q z)
      · rw [List.mem_singleton.mp z]; exact List.mem_of_getElem? hx
    · rw [walkE_snoc et v w1 (.inr rfl)]
      exact congrArg some (by omega)
    · obtain ⟨P, h1, h2⟩ := fr i _ ex
      refine h2 ?_
      have wp : ∀ (v : List Int) {h k : Int}, walkE n h v = some k → (∀ q ∈ v, q ∈ ps.take i) → (P h ↔ P k) := fun v => by
        induction v with
        | nil => intro h k e _; cases e; exact Iff.rfl
        | cons q v ih =>
          intro h k e hq
          have e : (match tieN n q with | none => none | some t => if h = t.a ∨ h = t.b then walkE n (t.a + t.b - h) v else none) = some k := e
          obtain ⟨j, hj, ej⟩ := List.mem_iff_getElem.mp (hq q List.mem_cons_self)
          rw [List.length_take] at hj
          have pj : ps[j]? = some q := by
            rw [← ej, List.getElem_take]
            exact List.getElem?_eq_getElem (by omega)
          obtain ⟨U, eU, xU⟩ := he j q pj
          rw [eU] at e
          simp only at e
          have hU := h1 ⟨U.a, U.b⟩ (List.mem_iff_getElem?.mpr ⟨j, by rw [List.getElem?_take, if_pos (by omega)]; exact xU⟩)
          by_cases c : h = U.a ∨ h = U.b
          · rw [if_pos c] at e
            have := ih e fun z hz => hq z (List.mem_cons_of_mem _ hz)
            rcases c with c | c
            · rw [c] at this ⊢
              rw [show U.a + U.b - U.a = U.b by omega] at this
              exact hU.trans this
            · rw [c] at this ⊢
              rw [show U.a + U.b - U.b = U.a by omega] at this
              exact hU.symm.trans this
          · rw [if_neg c] at e; cases e
      exact wp v w1 w3
  | none =>
    subst hr
    simp only [Option.isSome_none, cF]
    obtain ⟨P, p1, p2, p3⟩ := r1 rfl
    have b1 := i2.sz
    have b2 := i2.ln T.a
    have b3 := addA_len m T.a ⟨p, T.b⟩
    have ad := TdI.add i2 ex (y := ⟨T.a, T.b⟩) (.inl rfl) p ne
    have b4 := ad.ln T.b
    rw [ask_of ⟨by omega, by omega⟩]
    have b5 : ((dg (addA m T.a ⟨p, T.b⟩) T.b).getD []).length ≤ 2 * (i + 1) := by
      have e := addA_dg (addA m T.a ⟨p, T.b⟩) T.b ⟨p, T.a⟩ T.b
      rw [if_pos rfl] at e
      rw [e, List.length_append] at b4
      omega
    have g1 : (addA m T.a ⟨p, T.b⟩).l.length < sizeLine ∧ ((dg (addA m T.a ⟨p, T.b⟩) T.b).getD []).length < sizeLine := ⟨by omega, by omega⟩
    refine .inl ⟨addA (addA m T.a ⟨p, T.b⟩) T.b ⟨p, T.a⟩, ask_of g1, TdF.add o i1 hx et, ad, fun j x hj ej => ?_⟩
    by_cases c : j = i
    · subst c
      rw [ex] at ej
      cases ej
      refine ⟨P, fun y hy => ?_, fun z => p2 (z.mp p1)⟩
      obtain ⟨q, hq, eq⟩ := List.mem_iff_getElem.mp hy
      rw [List.length_take] at hq
      have lq : q < ps.length := by omega
      obtain ⟨U, eU, xU⟩ := he q ps[q] (List.getElem?_eq_getElem lq)
      have : E[q]? = some y := by
        rw [← eq, List.getElem_take]
        exact List.getElem?_eq_getElem (by omega)
      rw [xU] at this
      cases this
      exact p3 ps[q] (List.mem_iff_getElem?.mpr ⟨q, by rw [List.getElem?_take, if_pos (by omega)]; exact List.getElem?_eq_getElem lq⟩) U eU
    · exact i3 j x (by omega) ej
end SW
namespace SW
open PySem L2
/-- parts put together tie by tie -/
theorem has_spec {n : Net} (o : NetOk n) {ps : List Int} {E : List (T2 Int Int)} (hE : EdgOk n ps E) (hl : ps.length ≤ 100) : ∃ b, ((F__law_has_ring n ps).1.bind Out.pv) = some b ∧ (b = false → FreeE E) ∧ (b = true → ¬ FreeE E) := by
  obtain ⟨lE, he⟩ := hE
  have nl := o.bl
  unfold F__law_has_ring
  simp only [bS, Option.bind_assoc]
  rw [ask_le (by omega), compO_map, bS]
  have nd0 : ((n.a.l.map fun x => (⟨x, x⟩ : T2 Int Int)).map fun x => x.a).Nodup := by rw [List.map_map]; exact (List.map_id' n.a.l).symm ▸ o.bn
  have d0g : ∀ k ∈ n.a.l, dg (dOf (n.a.l.map fun x => (⟨x, x⟩ : T2 Int Int))) k = some k := fun k hk => by
    show lg (dOf _).l k = _
    rw [dOf_eq nd0]
    exact lg_of_mem (by rw [List.map_map]; exact nd0) (List.mem_map.mpr ⟨⟨k, k⟩, List.mem_map.mpr ⟨k, hk, rfl⟩, rfl⟩)
  have d0l : (dOf (n.a.l.map fun x => (⟨x, x⟩ : T2 Int Int))).l.length = n.a.l.length := by rw [dOf_eq nd0, List.length_map, List.length_map]
  have d0v : ∀ k v, dg (dOf (n.a.l.map fun x => (⟨x, x⟩ : T2 Int Int))) k = some v → v = k := fun k v e => by
    have m := lg_mem (show lg (dOf (n.a.l.map fun x => (⟨x, x⟩ : T2 Int Int))).l k = some v from e)
    rw [dOf_eq nd0] at m
    obtain ⟨x, hx, ex⟩ := List.mem_map.mp m
    obtain ⟨y, hy, ey⟩ := List.mem_map.mp hx
    rw [← ey] at ex
    injection ex with e1 e2
    exact e2.symm.trans e1
  have sz : 1000 ≤ sizeLine := by decide
  refine pforRB (m0 := dOf (n.a.l.map fun x => (⟨x, x⟩ : T2 Int Int))) (P := fun q : Option Bool => ∃ b, q = some b ∧ (b = false → FreeE E) ∧ (b = true → ¬ FreeE E)) (fun i (m : Dct Int Int) => m.l.length = n.a.l.length ∧ (∀ k ∈ n.a.l, ∃ v, dg m k = some v) ∧ (∀ P : Int → Prop, (∀ y ∈ E.take i, (P y.a ↔ P y.b)) → ∀ k v, dg m k = some v → (P k ↔ P v)) ∧ (∀ y ∈ E.take i, dg m y.a = dg m y.b) ∧ ∀ (j : Nat) (x : T2 Int Int), j < i → E[j]? = some x → ∃ P : Int → Prop, (∀ y ∈ E.take j, (P y.a ↔ P y.b)) ∧ ¬ (P x.a ↔ P x.b)) ⟨d0l, fun k hk => ⟨k, d0g k hk⟩, fun P _ k v e => by rw [d0v k v e], fun y hy => (by rw [List.take_zero] at hy; cases hy), fun j x hj => absurd hj (Nat.not_lt_zero _)⟩ (fun i p m hx ⟨i1, i2, i3, i4, i5⟩ => ?_) fun m ⟨_, _, _, _, i5⟩ => ⟨false, rfl, fun _ j x hx => i5 j x (by rw [← lE]; exact (List.getElem?_eq_some_iff.mp hx).1) hx, fun e => (by cases e)⟩
  have lp := (List.getElem?_eq_some_iff.mp hx).1
  obtain ⟨T, et, ex⟩ := he i p hx
  have ea := tieN_at et o.tl
  have tk := o.tie _ (tieN_rng et).2.2
  have tkE : E.take (i + 1) = E.take i ++ [⟨T.a, T.b⟩] := by rw [List.take_add_one, ex]; rfl
  obtain ⟨va, ga⟩ := i2 T.a tk.1
  obtain ⟨vb, gb⟩ := i2 T.b tk.2.1
  simp only [ea, bS, ga, gb]
  by_cases c : va = vb
  · rw [decide_eq_true c, cT]
    refine .inr ⟨_, _, rfl, true, rfl, fun e => (by cases e), fun _ fr => ?_⟩
    obtain ⟨P, h1, h2⟩ := fr i _ ex
    have a := i3 P h1 _ _ ga
    have b := i3 P h1 _ _ gb
    rw [c] at a
    exact h2 (a.trans b.symm)
  · rw [decide_eq_false c, cF]
    refine .inl ?_
    refine pfor (m0 := m) (P := fun q : Option (Out (Dct Int Int) (Dct Int Int) (Dct Int Int) Bool Unit) => ∃ m', q = some (Out.nx m') ∧ m'.l.length = n.a.l.length ∧ (∀ k ∈ n.a.l, ∃ v, dg m' k = some v) ∧ (∀ P : Int → Prop, (∀ y ∈ E.take (i + 1), (P y.a ↔ P y.b)) → ∀ k v, dg m' k = some v → (P k ↔ P v)) ∧ (∀ y ∈ E.take (i + 1), dg m' y.a = dg m' y.b) ∧ ∀ (j : Nat) (x : T2 Int Int), j < i + 1 → E[j]? = some x → ∃ P : Int → Prop, (∀ y ∈ E.take j, (P y.a ↔ P y.b)) ∧ ¬ (P x.a ↔ P x.b))
      (fun j (s : Dct Int Int) => s.l.length = m.l.length ∧ (∀ k, (dg s k).isSome = (dg m k).isSome) ∧ ∀ k, dg s k = if k ∈ n.a.l.take j ∧ dg m k = some va then some vb else dg m k) ⟨rfl, fun _ => rfl, fun k => by rw [List.take_zero, if_neg (fun z => by cases z.1)]⟩ (fun j k s hj ⟨j1, j2, j3⟩ => ?_) fun s ⟨j1, j2, j3⟩ => ?_
    · have km := List.mem_of_getElem? hj
      have tkj : n.a.l.take (j + 1) = n.a.l.take j ++ [k] := by rw [List.take_add_one, hj]; rfl
      have kn : k ∉ n.a.l.take j := fun z => by
        obtain ⟨q, hq, eq⟩ := List.mem_iff_getElem.mp z
        rw [List.length_take] at hq
        have : n.a.l[q]? = some k := by
          rw [← eq, List.getElem_take]
          exact List.getElem?_eq_getElem (by omega)
        have := nodup_inj o.bn this hj
        omega
      obtain ⟨w, gw⟩ := i2 k km
      have sk : dg s k = some w := by rw [j3 k, if_neg (fun z => kn z.1)]; exact gw
      rw [sk, bS]
      by_cases c2 : w = va
      · rw [decide_eq_true c2, cT, ask_of (by omega)]
        have e1 : (dp s k vb).l.length = s.l.length := by
          have := congrArg List.length (lp_same (w := vb) (show lg s.l k = some w from sk))
          rw [List.length_map, List.length_map] at this
          exact this
        refine ⟨_, rfl, e1.trans j1, fun q => ?_, fun q => ?_⟩
        · rw [dg_dp]
          by_cases c3 : k = q
          · rw [if_pos c3, ← c3, gw]; rfl
          · rw [if_neg c3]; exact j2 q
        · rw [dg_dp, tkj]
          by_cases c3 : k = q
          · rw [if_pos c3, ← c3, if_pos ⟨List.mem_append_right _ (List.mem_singleton.mpr rfl), by rw [gw, c2]⟩]
          · rw [if_neg c3, j3 q]
            by_cases c4 : q ∈ n.a.l.take j ∧ dg m q = some va
            · rw [if_pos c4, if_pos ⟨List.mem_append_left _ c4.1, c4.2⟩]
            · rw [if_neg c4, if_neg fun z => c4 ⟨(List.mem_append.mp z.1).elim id fun y => absurd (List.mem_singleton.mp y).symm c3, z.2⟩]
      · rw [decide_eq_false c2, cF]
        refine ⟨_, rfl, j1, j2, fun q => ?_⟩
        rw [j3 q, tkj]
        by_cases c3 : q = k
        · rw [c3, if_neg (fun z => kn z.1), if_neg fun z => by rw [gw] at z; exact c2 (Option.some.inj z.2)]
        · by_cases c4 : q ∈ n.a.l.take j ∧ dg m q = some va
          · rw [if_pos c4, if_pos ⟨List.mem_append_left _ c4.1, c4.2⟩]
          · rw [if_neg c4, if_neg fun z => c4 ⟨(List.mem_append.mp z.1).elim id fun y => absurd (List.mem_singleton.mp y) c3, z.2⟩]
    · rw [List.take_length] at j3
      have nd' : ∀ y ∈ E, y.a ∈ n.a.l ∧ y.b ∈ n.a.l := fun y hy => by
        obtain ⟨q, hq, eq⟩ := List.mem_iff_getElem.mp hy
        have lq : q < ps.length := by omega
        obtain ⟨U, eU, xU⟩ := he q ps[q] (List.getElem?_eq_getElem lq)
        rw [List.getElem?_eq_getElem hq, eq] at xU
        cases xU
        have := o.tie _ (tieN_rng eU).2.2
        exact ⟨this.1, this.2.1⟩
      have g2 : ∀ k ∈ n.a.l, dg s k = if dg m k = some va then some vb else dg m k := fun k hk => by
        rw [j3 k]
        by_cases c4 : dg m k = some va
        · rw [if_pos ⟨hk, c4⟩, if_pos c4]
        · rw [if_neg fun z => c4 z.2, if_neg c4]
      refine ⟨s, rfl, j1.trans i1, fun k hk => ?_, fun P hP k v e => ?_, fun y hy => ?_, fun j x hj ej => ?_⟩
      · rw [g2 k hk]
        obtain ⟨w, gw⟩ := i2 k hk
        by_cases c4 : dg m k = some va
        · rw [if_pos c4]; exact ⟨_, rfl⟩
        · rw [if_neg c4]; exact ⟨w, gw⟩
      · have hP' : ∀ y ∈ E.take i, (P y.a ↔ P y.b) := fun y hy => hP y (by rw [tkE]; exact List.mem_append_left _ hy)
        have hT := hP ⟨T.a, T.b⟩ (by rw [tkE]; exact List.mem_append_right _ (List.mem_singleton.mpr rfl))
        rw [j3 k] at e
        by_cases c4 : k ∈ n.a.l ∧ dg m k = some va
        · rw [if_pos c4] at e
          cases e
          exact (i3 P hP' _ _ c4.2).trans ((i3 P hP' _ _ ga).symm.trans (hT.trans (i3 P hP' _ _ gb)))
        · rw [if_neg c4] at e
          exact i3 P hP' k v e
      · rw [tkE] at hy
        rcases List.mem_append.mp hy with z | z
        · have m1 := nd' y (List.mem_of_mem_take z)
          rw [g2 _ m1.1, g2 _ m1.2, i4 y z]
        · rw [List.mem_singleton.mp z]
          show dg s T.a = dg s T.b
          rw [g2 _ tk.1, g2 _ tk.2.1, if_pos ga, gb, if_neg fun z => c (Option.some.inj z).symm]
      · by_cases c5 : j = i
        · subst c5
          rw [ex] at ej
          cases ej
          refine ⟨fun z => dg m z = dg m T.a, fun y hy => ?_, fun z => ?_⟩
          · show dg m y.a = dg m T.a ↔ dg m y.b = dg m T.a
            rw [i4 y hy]
          · have : dg m T.b = dg m T.a := z.mp rfl
            rw [ga, gb] at this
            exact c (Option.some.inj this).symm
        · exact i5 j x (by omega) ej
/-- gone along a list of ties -/
theorem goes_eq {n : Net} (o : NetOk n) {ring : List Int} (hr : ∀ p ∈ ring, ∃ T, tieN n p = some T) (first : Int) : ((F__law_goes_round n ring first).1.bind Out.pv) = some (decide (walkE n first ring = some first)) := by
  unfold F__law_goes_round
  simp only [bS, Option.bind_assoc]
  have go : ∀ (k : Nat) (h : Int), walkE n h (ring.drop k) = some first → walkE n h (ring.drop k) = some first := fun _ _ z => z
  refine pforRB (m0 := first) (P := fun q : Option Bool => q = some (decide (walkE n first ring = some first))) (fun i (m : Int) => walkE n first ring = walkE n m (ring.drop i)) rfl (fun i p m hx im => ?_) fun m im => ?_
  · obtain ⟨T, et⟩ := hr p (List.mem_of_getElem? hx)
    have dr : ring.drop i = p :: ring.drop (i + 1) := by
      obtain ⟨li, ei⟩ := List.getElem?_eq_some_iff.mp hx
      rw [← ei]
      exact List.drop_eq_getElem_cons li
    have st : walkE n m (ring.drop i) = if m = T.a ∨ m = T.b then walkE n (T.a + T.b - m) (ring.drop (i + 1)) else none := by
      rw [dr]
      show (match tieN n p with | none => none | some t => if m = t.a ∨ m = t.b then walkE n (t.a + t.b - m) (ring.drop (i + 1)) else none) = _
      rw [et]
    rw [tieN_at et o.tl, bS]
    by_cases c : m = T.a ∨ m = T.b
    · rw [decide_eq_true (show m ∈ [T.a, T.b] by simpa using c), nT, cF]
      rw [if_pos c] at st
      exact .inl ⟨_, rfl, im.trans st⟩
    · rw [decide_eq_false (show ¬ m ∈ [T.a, T.b] by simpa using c), nF, cT]
      rw [if_neg c] at st
      refine .inr ⟨_, _, rfl, ?_⟩
      rw [im, st]
      rfl
  · rw [List.drop_length] at im
    rw [im]
    show some (decide (m = first)) = some (decide (some m = some first))
    by_cases c : m = first
    · rw [decide_eq_true c, decide_eq_true (congrArg some c)]
    · rw [decide_eq_false c, decide_eq_false fun z => c (Option.some.inj z)]
end SW
namespace SW
open PySem L2
theorem places_eq {r : List Int} (hr : RowOk r) {n : Net} (o : NetOk n) : ∃ ps r', RowOk r' ∧ ps.Nodup ∧ ps.length ≤ 16 ∧ (∀ p ∈ ps, 0 ≤ p ∧ p < (n.b.l.length : Int)) ∧ ((F__law_places r n).1.bind Out.val) = some (ps, r') := by
  have nt := o.tl
  have sz : 1000 ≤ sizeLine := by decide
  unfold F__law_places
  simp only [bS, Option.bind_assoc]
  rw [ask_of (by unfold small; constructor <;> omega), bS]
  refine pforB (m0 := (r, [])) (P := fun q : Option (List Int × List Int) => ∃ ps r', RowOk r' ∧ ps.Nodup ∧ ps.length ≤ 16 ∧ (∀ p ∈ ps, 0 ≤ p ∧ p < (n.b.l.length : Int)) ∧ q = some (ps, r')) (fun i (m : List Int × List Int) => RowOk m.1 ∧ m.2.Nodup ∧ m.2.length ≤ i ∧ ∀ p ∈ m.2, 0 ≤ p ∧ p < (i : Int)) ⟨hr, List.nodup_nil, Nat.zero_le _, fun p hp => (by cases hp)⟩ (fun i x m hx ⟨i0, i1, i2, i3⟩ => ?_) fun m ⟨i0, i1, i2, i3⟩ => ?_
  · obtain ⟨ex, lx⟩ := rngI_get hx
    obtain ⟨w1, s1, p1, m1, u1⟩ := takeI (α := Out (List Int × List Int) (List Int × List Int) (List Int × List Int) (List Int) (List Int)) i0 3 (by decide) (by decide)
    rw [u1]
    by_cases c : 0 < (w1 : Int)
    · rw [decide_eq_true c, cT]
      obtain ⟨w2, s2, p2, m2, u2⟩ := takeI (α := Out (List Int × List Int) (List Int × List Int) (List Int × List Int) (List Int) (List Int)) p1 ((m.2.length : Int) + 1) (by omega) (by omega)
      simp only []
      rw [u2, ask_of ⟨by omega, by omega, by show (w2 : Int) < 2 ^ 63; omega⟩]
      have mem : ∀ p, p ∈ m.2.take (w2 : Int).toNat ++ [x] ++ m.2.drop (w2 : Int).toNat ↔ p ∈ m.2 ∨ p = x := fun p => by
        rw [List.mem_append, List.mem_append, List.mem_singleton]
        constructor
        · rintro ((z | z) | z)
          · exact .inl (List.mem_of_mem_take z)
          · exact .inr z
          · exact .inl (List.mem_of_mem_drop z)
        · rintro (z | z)
          · rw [← List.take_append_drop (w2 : Int).toNat m.2] at z
            rcases List.mem_append.mp z with y | y
            · exact .inl (.inl y)
            · exact .inr y
          · exact .inl (.inr z)
      have pm : (m.2.take (w2 : Int).toNat ++ [x] ++ m.2.drop (w2 : Int).toNat).Perm (x :: m.2) := by
        rw [List.append_assoc]
        have : (m.2.take (w2 : Int).toNat ++ ([x] ++ m.2.drop (w2 : Int).toNat)).Perm (x :: (m.2.take (w2 : Int).toNat ++ m.2.drop (w2 : Int).toNat)) := List.perm_middle
        rw [List.take_append_drop] at this
        exact this
      refine ⟨_, rfl, p2, ?_, ?_, fun p hp => ?_⟩
      · refine pm.nodup_iff.mpr (List.nodup_cons.mpr ⟨fun z => ?_, i1⟩)
        have := i3 x z
        omega
      · show (m.2.take (w2 : Int).toNat ++ [x] ++ m.2.drop (w2 : Int).toNat).length ≤ i + 1
        rw [pm.length_eq, List.length_cons]
        omega
      · rcases (mem p).mp hp with z | z
        · have := i3 p z
          omega
        · omega
    · rw [decide_eq_false c, cF]
      exact ⟨_, rfl, p1, i1, Nat.le_succ_of_le i2, fun p hp => by have := i3 p hp; omega⟩
  · rw [rngI_len] at i2 i3
    exact ⟨m.2, m.1, i0, i1, by omega, i3, rfl⟩
def edges33 (n : Net) (ps : List Int) : List (T2 Int Int) := ps.map fun p => match tieN n p with
  | some t => ⟨t.a, t.b⟩
  | none => ⟨0, 0⟩
theorem edges_ok {n : Net} {ps : List Int} (h : ∀ p ∈ ps, 0 ≤ p ∧ p < (n.b.l.length : Int)) : EdgOk n ps (edges33 n ps) := by
  refine ⟨List.length_map _, fun i p hp => ?_⟩
  obtain ⟨T, et⟩ := tieN_of (n := n) (h p (List.mem_of_getElem? hp))
  refine ⟨T, et, ?_⟩
  unfold edges33
  rw [List.getElem?_map, hp]
  show some (match tieN n p with | some t => (⟨t.a, t.b⟩ : T2 Int Int) | none => ⟨0, 0⟩) = _
  rw [et]
theorem right_eq {n : Net} (o : NetOk n) {ps ring : List Int} (h : ∀ p ∈ ps, 0 ≤ p ∧ p < (n.b.l.length : Int)) (r : RingP n ps ring) : ((F__law_ring_right n ps ring).1.bind Out.pv) = some true := by
  have ht : ∀ p ∈ ring, ∃ T, tieN n p = some T := fun p hp => tieN_of (h p (r.sub p hp))
  unfold F__law_ring_right
  simp only [bS, Option.bind_assoc]
  have two := r.two
  have szr := r.sz
  have dl : ((ring.foldl PyProof.Rows.step_dedup []).length : Int) = (ring.length : Int) := by
    have a := nodup_le r.nd fun k hk => (dedup_mem (k := k) ring []).mpr (.inr hk)
    have b := nodup_le (dedup_nodup ring [] List.nodup_nil) fun k hk => ((dedup_mem (k := k) ring []).mp hk).resolve_left List.not_mem_nil
    omega
  have ln : ¬ ((ring.length : Int) < 2) := by omega
  rw [show (!(true || false)) = false from rfl, cF, decide_eq_false ln, cF, ask_of (by omega), bS, decide_eq_true dl, nT, bS, cF, ask_le (by omega)]
  have cm : compO (fun y : Int => some !decide (y ∈ ps)) (fun x1 => some x1) ring = some [] := by
    have : ∀ l : List Int, (∀ p ∈ l, p ∈ ps) → compO (fun y : Int => some !decide (y ∈ ps)) (fun x1 => some x1) l = some [] := fun l => by
      induction l with
      | nil => intro _; rfl
      | cons p l ih =>
        intro hl
        show ((some !decide (p ∈ ps)).bind _) = _
        rw [decide_eq_true (hl p List.mem_cons_self), nT, bS]
        have := ih fun q hq => hl q (List.mem_cons_of_mem _ hq)
        simp only [cF]
        exact this
    exact this ring r.sub
  rw [cm, bS, decide_eq_true rfl, nT, cF]
  obtain ⟨one, go⟩ := r.go
  cases hr : ring with
  | nil => rw [hr] at two; exact absurd two (by decide)
  | cons p rest =>
  rw [hr] at go ht
  obtain ⟨T, et⟩ := ht p List.mem_cons_self
  have a0 : atI (p :: rest) 0 = some p := atI_nat (l := p :: rest) (k := 0) (Nat.succ_pos _)
  have b0 : atI [T.a, T.b] 0 = some T.a := rfl
  have b1 : atI [T.a, T.b] 1 = some T.b := rfl
  rw [a0, bS, tieN_at et o.tl, bS]
  simp only [b0, b1, bS]
  rw [pvQ (goes_eq o ht T.a)]
  have st : one = T.a ∨ one = T.b := by
    have go : (match tieN n p with | none => none | some t => if one = t.a ∨ one = t.b then walkE n (t.a + t.b - one) rest else none) = some one := go
    rw [et] at go
    simp only at go
    by_cases c : one = T.a ∨ one = T.b
    · exact c
    · rw [if_neg c] at go; cases go
  rcases st with e | e
  · rw [e] at go
    rw [decide_eq_true go, cT]
    rfl
  · by_cases c : walkE n T.a (p :: rest) = some T.a
    · rw [decide_eq_true c, cT]
      rfl
    · rw [e] at go
      rw [decide_eq_false c, cF, goes_eq o ht T.b, decide_eq_true go]
      rfl
theorem law_true (s : Scr) (hs : s.l.length ≤ 63) : ((F_law s).1.bind Out.pv) = some true := by
  unfold F_law
  simp only [bS, Option.bind_assoc]
  have sz : 1000 ≤ sizeLine := by decide
  have lc : (cutL s.l none (some 30)).length ≤ 63 := by
    unfold cutL
    rw [List.length_take, List.length_drop]
    omega
  rw [ask_of (by show 1 ≤ 1000; decide), bS, ask_of (by rw [List.length_singleton]; omega), bS]
  refine pforB (m0 := ()) (P := fun q : Option Bool => q = some true) (fun k (m : Unit) => True) trivial (fun k c m hx _ => ?_) fun m _ => rfl
  obtain ⟨r, o1, e1⟩ := row_ok c
  rw [pvQ e1]
  obtain ⟨n, r2, o2, g, e2⟩ := net31 o1
  rw [valQ e2]
  obtain ⟨ps, r3, o3, nd, lp, rg, e3⟩ := places_eq o2 g.ok
  simp only []
  rw [valQ e3]
  simp only []
  have hE := edges_ok rg
  obtain ⟨x, ex, x1, x2⟩ := ring_spec g.ok hE nd (by omega)
  obtain ⟨b, eb, b1, b2⟩ := has_spec g.ok hE (by omega)
  rw [pvQ ex]
  simp only [decide_true, nT, cF]
  rw [pvQ eb]
  cases b with
  | false =>
    simp only [nF, cT]
    cases x with
    | none => exact ⟨_, rfl, trivial⟩
    | some v => exact absurd (b1 rfl) (x2 v rfl).2
  | true =>
    simp only [nT, cF]
    cases x with
    | none => exact absurd (x1 rfl) (b2 rfl)
    | some v =>
      rw [bS, pvQ (right_eq g.ok rg (x2 v rfl).1)]
      exact ⟨_, rfl, trivial⟩
end SW
namespace SW
theorem law_ok (ns : List Int) (hn : ns.length ≤ 63) : run P0 T depth f_law [.rl (ns.map .int)] (fun _ => none) (fun v _ => v = .bl true) noX :=
  S_law ⟨ns⟩ depth (by decide) true (law_true ⟨ns⟩ hn) [.rl (ns.map .int)] (fun _ => none) (fun v _ => v = .bl true) noX ⟨rfl, trivial⟩ fun d S' _ n => by
    obtain ⟨h, a, _⟩ := n
    exact a
end SW
open PySem PySem.W PySem.Calls PyProof.Rows
set_option maxHeartbeats 8000000 in
theorem PySem.Challenge.cw_shutways_k33_rings_told_holds : PySem.Challenge.rw_shutways_k33_rings_told.Holds := by
  w_on; o_law
  refine HandSHeadRun.head_any (r := SW.RR) (q := view SW.RR.prog [24]) (H := SW.hk) (ob := SW.ob) (M := 100000) (loose := SW.loose) (d := HandSHeadRun.topDef SW.RR.prog 24) (kwd := []) SW.ob_eq
    (by kernel_rfl) (fun s => by kernel_rfl) SW.topRunEq (by kernel_rfl) (by kernel_rfl) (by kernel_rfl) (by rfl) (by first | assumption | decide +kernel) (by decide +kernel) ⟨rfl, rfl, rfl, rfl, rfl, by decide +kernel⟩ ?hw ?hc
  case hw => w_witness2
  case hc =>
    refine SW.law_end (l := PySem.Challenge.rw_shutways_k33_rings_told) (n := 63) (k := SW.depth) (P := SW.P0) (T := SW.T) (x := "script") (f := SW.f_law) (fd0 := ⟨1, 7, SW.b_law⟩) rfl (by decide) (by kernel_rfl) ⟨rfl, by decide, by decide⟩ rfl rfl ?F SW.law_ok
    intro w mg fa h Y G hmg0
    obtain ⟨K, KX, c, hx⟩ := Y
    have hmg : mg ("law" : PySem.Str) = some (.ref fa) := by
      have e : (HandSHeadRun.topDef SW.RR.prog 24).name = ("law" : PySem.Str) := by kernel_rfl
      rw [← e]
      exact hmg0
    obtain ⟨fd, ps, hF, hps⟩ := SW.fl_law c
    subst hps
    have e := hmg.symm.trans (He.glo_ok KX G (c.fact 14))
    cases e
    exact ⟨SW.mkC K, SW.G0, SW.adr K, fd, KX, SW.link_ok KX G c hx, rfl, hF⟩
