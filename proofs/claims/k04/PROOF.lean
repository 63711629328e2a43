import PyProof.Rows.All
import Wide.All
import OpenK.AllK
import Wide.FinOn
import KE.KStateDown
import PyProof.EqLayable
import HandS.Base
import HandS.Call
import HandS.List
import HandS.Dict
import HandS.Text
import HandS.TupAny
import HandS.TupLe
import HandS.IsInst
import HandS.SortInts
import HandS.More
import HandS.Comp
import HandS.Ends
import HandS.Iter
import HandS.Exc
import KE.DatumOrd
import KE.KTupSum
import KE.KSortTupG
import HandS.Conv
import HandS.Walk
import HandS.HeadWalk
import HandS.Style
import HandS.SetFor
import PyProof.EnumMake
import PyProof.Draws
import KE.GoesMore
import HandS.Zip
import HandS.ExcOwn
import HandS.HeadHook1
import HandS.TryOnly
import HandS.ExcIs
import HandS.FStr
import HandS.HeadEnd
import HandS.HeadHook2
import HandS.Defaults
import HandS.Words
import HandS.WordsExc
import HandS.Codes
import KE.KSortedM
import HandS.Head0
import HandS.Head1
import HandS.Head2
import PySem.Challenge.RW_shutways_k04_nets_written
set_option Elab.async false
set_option linter.all false
set_option maxRecDepth 100000
set_option maxHeartbeats 4000000
/-! SW, part A: pure data, a store of cells, the small language, what it computes (weakest preconditions). -/
namespace SW
open PySem

/-! ### data and store -/
inductive D where
  | non | bl (b : Bool) | int (i : Int) | str (s : Str) | tup (xs : List D) | ref (a : Addr) | rl (xs : List D)
  deriving Inhabited
abbrev Env := List (Option D)
inductive Cell where
  | lst (xs : List D)
  | dic (kvs : List (D × D))
  | ins (c : Nat) (fs : List (Nat × D))
  | fz (c : Cell)
abbrev Store := Addr → Option Cell
def Store.upd (S : Store) (a : Addr) (c : Cell) : Store := fun b => if b = a then some c else S b
def unfz : Cell → Cell
  | .fz c => c
  | c => c
def Store.rd (S : Store) (a : Addr) : Option Cell := (S a).map unfz
theorem Store.upd_same {S : Store} {a : Addr} {c : Cell} : S.upd a c a = some c := if_pos rfl
theorem Store.upd_ne {S : Store} {a b : Addr} {c : Cell} (h : b ≠ a) : S.upd a c b = S b := if_neg h
theorem Store.upd_upd {S : Store} {a : Addr} {c d : Cell} : (S.upd a c).upd a d = S.upd a d := by
  funext b; unfold Store.upd; split <;> rfl
/-- a field is stored -/
def putN (f : Nat) (v : D) : List (Nat × D) → List (Nat × D)
  | [] => [(f, v)]
  | (g, u) :: r => if f = g then (g, v) :: r else (g, u) :: putN f v r

/-! equality of keys: ints, texts, tuples of these -/
mutual
def eqK : D → D → Bool
  | .int i, .int j => i == j
  | .str s, .str t => s == t
  | .tup xs, .tup ys => eqKs xs ys
  | _, _ => false
def eqKs : List D → List D → Bool
  | [], [] => true
  | x :: xs, y :: ys => eqK x y && eqKs xs ys
  | _, _ => false
end
def getK (k : D) : List (D × D) → Option D
  | [] => none
  | (q, v) :: r => if eqK q k = true then some v else getK k r
def hasK (k : D) (l : List (D × D)) : Bool := l.any fun q => eqK q.1 k
def repK (k v : D) (l : List (D × D)) : List (D × D) := l.map fun q => if eqK q.1 k = true then (q.1, v) else q
def putK (k v : D) (l : List (D × D)) : List (D × D) := if hasK k l = true then repK k v l else l ++ [(k, v)]
def mergeD (kvs more : List (D × D)) : List (D × D) := more.foldl (fun acc kv => putK kv.1 kv.2 acc) kvs
def delK (k : D) (l : List (D × D)) : List (D × D) := l.filter fun q => !eqK q.1 k
/-! data as the model's plain data, to a depth -/
mutual
def toPD : Nat → Store → D → Option PyData
  | 0, _, _ => none
  | _ + 1, _, .non => some .none
  | _ + 1, _, .bl b => some (.bool b)
  | _ + 1, _, .int i => some (.int i)
  | _ + 1, _, .str s => some (.str s)
  | n + 1, S, .tup xs => (toPDs n S xs).map .tuple
  | _ + 1, _, .rl _ => none
  | n + 1, S, .ref a => match S a with
    | some (.lst xs) => (toPDs n S xs).map .list
    | _ => none
def toPDs : Nat → Store → List D → Option (List PyData)
  | _, _, [] => some []
  | 0, _, _ :: _ => none
  | n + 1, S, x :: xs => match toPD n S x with
    | none => none
    | some p => match toPDs n S xs with
      | none => none
      | some ps => some (p :: ps)
end

/-! ### the language -/
inductive Bop where | add | sub | mul | fdiv | mod | pow
  deriving DecidableEq
inductive Cop where | eq | ne | lt | le | gt | ge | is | isnot | in_ | notin
  deriving DecidableEq
inductive Ty where | int | bool | str | list | tuple | dict | cls (c : Nat)
  deriving DecidableEq
inductive Blt where | len | int | max | min | list | tuple | sorted | str | abs | sum | all | any | bool
  deriving DecidableEq
inductive Bmt where | append | pop | get | join | split | extend | clear | index | setdefault | insert | reverse | count | remove | startswith | items
  deriving DecidableEq
mutual
inductive Tg where | nm (i : Nat) | tup (ts : Tgs)
inductive Tgs where | nil | cons (t : Tg) (ts : Tgs)
end
mutual
inductive Ex where
  | var (i : Nat) | cst (d : D)
  | tup (es : Exs) | lst (es : Exs) | dic (ks vs : Exs)
  | bin (o : Bop) (a b : Ex) | neg (a : Ex) | no (a : Ex) | an (a b : Ex) | or (a b : Ex)
  | cmp (o : Cop) (a b : Ex) | chn (o o' : Cop) (a b c : Ex) | ife (t a b : Ex)
  | ix (a b : Ex) | slc (a : Ex) (lo hi : Ox) | rvs (a : Ex) | fld (a : Ex) (f : Nat) | lrg (a b : Ex)
  | call (f : Nat) (es : Exs) | mk (c : Nat) (es : Exs) | meth (a : Ex) (m : Nat) (es : Exs)
  | blt (b : Blt) (es : Exs) | bmt (a : Ex) (m : Bmt) (es : Exs)
  | isi (a : Ex) (ts : List Ty)
  | comp (e : Ex) (tg : Tg) (it : Itx) (c : Ex) (own : List Nat)
inductive Exs where | nil | cons (e : Ex) (es : Exs)
inductive Ox where | no | some (e : Ex)
inductive Itx where | seq (e : Ex) | rng1 (a : Ex) | rng2 (a b : Ex) | enu (e : Ex) | zip (a b : Ex) | rev (e : Ex)
end
/-! what an except suite may do: e is the exception -/
inductive Qx where | cst (d : D) | var (i : Nat) | isx (cs : List (Option Nat)) | an (a b : Qx) | or (a b : Qx) | no (a : Qx) | int (a : Qx) | bin (o : Bop) (a b : Qx)
inductive Qm where | asg (i : Nat) (e : Qx) | lst (i : Nat) (es : List Qx) | app (i : Nat) (e : Qx)
mutual
inductive Sm where
  | asg (t : Tg) (e : Ex) | asF (a : Ex) (f : Nat) (e : Ex) | asS (a i e : Ex)
  | aug (i : Nat) (o : Bop) (e : Ex) | auF (a : Ex) (f : Nat) (o : Bop) (e : Ex) | auS (a i : Ex) (o : Bop) (e : Ex)
  | ex (e : Ex) | ret (e : Ex) | retN | ite (t : Ex) (a b : Sms)
  | for_ (t : Tg) (it : Itx) (b : Sms) | forD (t : Tg) (items : Bool) (e : Ex) (b : Sms)
  | while_ (t : Ex) (b : Sms) | try_ (b : Sms) (c : Nat) (en : Option Nat) (q : List Qm) | pass | cont | brk | raise (c : Nat)
inductive Sms where | nil | cons (s : Sm) (ss : Sms)
end

/-! ### what operators do -/
abbrev PQ := D → Store → Prop
abbrev PX := Nat → Store → Prop
def wpBin : Bop → D → D → Store → PQ → Prop
  | .add, .int i, .int j, S, Q => Q (.int (i + j)) S
  | .add, .str s, .str t, S, Q => s.length + t.length ≤ sizeLine ∧ Q (.str (s ++ t)) S
  | .add, .tup xs, .tup ys, S, Q => xs.length + ys.length ≤ sizeLine ∧ Q (.tup (xs ++ ys)) S
  | .add, .ref a, .ref b, S, Q => ∃ xs ys, S a = some (.lst xs) ∧ S b = some (.lst ys) ∧ xs.length + ys.length ≤ sizeLine ∧
      ∀ p, S p = none → Q (.ref p) (S.upd p (.lst (xs ++ ys)))
  | .sub, .int i, .int j, S, Q => Q (.int (i - j)) S
  | .mul, .ref a, .int k, S, Q => ∃ xs, S a = some (.lst xs) ∧ -(2 ^ 63) ≤ k ∧ k < 2 ^ 63 ∧ xs.length * k.toNat ≤ sizeLine ∧
      ∀ p, S p = none → Q (.ref p) (S.upd p (.lst (List.replicate k.toNat xs).flatten))
  | .mul, .int i, .int j, S, Q => L2.CMul i j ∧ Q (.int (i * j)) S
  | .fdiv, .int i, .int j, S, Q => (0 < j ∧ j < 1073741824) ∧ Q (.int (i / j)) S
  | .mod, .int i, .int j, S, Q => 0 < j ∧ Q (.int (i % j)) S
  | .pow, .int i, .int j, S, Q => L2.CPow i j ∧ Q (.int (i ^ j.toNat)) S
  | _, _, _, _, _ => False
/-- x op= y: ints and texts alone -/
def wpAug : Bop → D → D → (D → Prop) → Prop
  | .add, .int i, .int j, Q => Q (.int (i + j))
  | .sub, .int i, .int j, Q => Q (.int (i - j))
  | .add, .str s, .str t, Q => s.length + t.length ≤ sizeLine ∧ Q (.str (s ++ t))
  | _, _, _, _ => False
def isNon : D → Bool
  | .non => true
  | _ => false
def intsOf : List D → Option (List Int)
  | [] => some []
  | .int i :: r => (intsOf r).map (i :: ·)
  | _ :: _ => none
def strsOf : List D → Option (List Str)
  | [] => some []
  | .str s :: r => (strsOf r).map (s :: ·)
  | _ :: _ => none
def blsOf : List D → Option (List Bool)
  | [] => some []
  | .bl s :: r => (blsOf r).map (s :: ·)
  | _ :: _ => none
def tupsOf : List D → Option (List (List Int))
  | [] => some []
  | .tup xs :: r => match intsOf xs, tupsOf r with
    | some n, some m => some (n :: m)
    | _, _ => none
  | _ :: _ => none
/-- a key of a plain dict -/
def isKey : D → Bool
  | .int _ => true
  | .str _ => true
  | _ => false
def pairsOf : List D → Option (List (D × D))
  | [] => some []
  | [_] => none
  | k :: v :: r => if isKey k = true then (pairsOf r).map ((k, v) :: ·) else none
def flatD : D → Bool
  | .non => true
  | .bl _ => true
  | .int _ => true
  | .str _ => true
  | _ => false
def eqF : D → D → Bool
  | .non, .non => true
  | .bl a, .bl b => a == b
  | .bl a, .int j => (if a then 1 else 0) == j
  | .int i, .bl b => i == (if b then 1 else 0)
  | .int i, .int j => i == j
  | .str s, .str t => s == t
  | _, _ => false
def inF (x : D) (xs : List D) : Bool := xs.any fun y => eqF y x
def wpIn (x y : D) (S : Store) (Q : Bool → Prop) : Prop := match y with
  | .tup ys => flatD x = true ∧ (∀ z ∈ ys, flatD z = true) ∧ Q (inF x ys)
  | .ref a => (∃ ys, S a = some (.lst ys) ∧ flatD x = true ∧ (∀ z ∈ ys, flatD z = true) ∧ Q (inF x ys)) ∨
      (∃ kvs, S.rd a = some (.dic kvs) ∧ isKey x = true ∧ Q (getK x kvs).isSome)
  | .str t => match x with
    | .str s => Q (!(Builtin.Str.occurrences t s 0 t.length 1).isEmpty)
    | _ => False
  | _ => False
def wpEq : D → D → Store → (Bool → Prop) → Prop
  | .str s, .str t, _, Q => Q (decide (s = t))
  | x, y, S, Q => ∃ n p q, toPD n S x = some p ∧ toPD n S y = some q ∧ SeqAt.shaped p = true ∧ SeqAt.shaped q = true ∧ Q (PyData.eqv p q)
def wpLt (x y : D) (Q : Bool → Prop) : Prop := match x, y with
  | .int i, .int j => Q (decide (i < j))
  | .tup xs, .tup ys => ∃ ns ms, intsOf xs = some ns ∧ intsOf ys = some ms ∧ Q (HT.lexLt ns ms)
  | _, _ => False
def wpCop : Cop → D → D → Store → (Bool → Prop) → Prop
  | .eq, x, y, S, Q => wpEq x y S Q
  | .ne, x, y, S, Q => wpEq x y S fun b => Q (!b)
  | .lt, x, y, _, Q => wpLt x y Q
  | .gt, x, y, _, Q => wpLt y x Q
  | .le, .int i, .int j, _, Q => Q (decide (i ≤ j))
  | .ge, .int i, .int j, _, Q => Q (decide (j ≤ i))
  | .is, x, .non, _, Q => Q (isNon x)
  | .isnot, x, .non, _, Q => Q (!isNon x)
  | .in_, x, y, S, Q => wpIn x y S Q
  | .notin, x, y, S, Q => wpIn x y S fun b => Q (!b)
  | _, _, _, _, _ => False
def cutL {α : Type} (xs : List α) (lo hi : Option Int) : List α := (xs.drop (HT.sIx xs.length 0 lo)).take (HT.sIx xs.length xs.length hi - HT.sIx xs.length 0 lo)
def wpIx (x y : D) (S : Store) (Q : D → Prop) : Prop := match x with
  | .tup xs => ∃ i d, y = .int i ∧ L2.atI xs i = some d ∧ Q d
  | .rl xs => ∃ i d, y = .int i ∧ L2.atI xs i = some d ∧ Q d
  | .str s => ∃ i c, y = .int i ∧ s.length ≤ sizeLine ∧ L2.atI s.cps.toList i = some c ∧ Q (.str ⟨#[c]⟩)
  | .ref a => (∃ xs i d, S a = some (.lst xs) ∧ y = .int i ∧ L2.atI xs i = some d ∧ Q d) ∨
      (∃ kvs d, S.rd a = some (.dic kvs) ∧ isKey y = true ∧ getK y kvs = some d ∧ Q d)
  | _ => False
def wpSl (x : D) (lo hi : Option Int) (S : Store) (Q : PQ) : Prop := match x with
  | .tup xs => Q (.tup (cutL xs lo hi)) S
  | .str s => s.length ≤ sizeLine ∧ Q (.str (L2.cutS s lo hi)) S
  | .ref a => ∃ xs, S a = some (.lst xs) ∧ ∀ p, S p = none → Q (.ref p) (S.upd p (.lst (cutL xs lo hi)))
  | .rl xs => ∀ p, S p = none → Q (.ref p) (S.upd p (.lst (cutL xs lo hi)))
  | _ => False
inductive Kd where | non | bl | int | str | tup | lst | dic
  deriving DecidableEq
def kdOf (S : Store) : D → Option Kd
  | .non => some .non
  | .bl _ => some .bl
  | .int _ => some .int
  | .str _ => some .str
  | .tup _ => some .tup
  | .rl _ => some .lst
  | .ref a => match S.rd a with
    | some (.lst _) => some .lst
    | some (.dic _) => some .dic
    | _ => none
def kdTy : Kd → Ty → Option Bool
  | _, .cls _ => none
  | .int, .int => some true
  | .bl, .int => some true
  | .bl, .bool => some true
  | .str, .str => some true
  | .tup, .tuple => some true
  | .lst, .list => some true
  | .dic, .dict => some true
  | _, _ => some false
def isTys (k : Kd) : List Ty → Option Bool
  | [] => some false
  | t :: ts => match kdTy k t, isTys k ts with
    | some b, some c => some (b || c)
    | _, _ => none
def seqOf (S : Store) : D → Option (List D)
  | .tup xs => some xs
  | .rl xs => some xs
  | .ref a => match S a with
    | some (.lst xs) => some xs
    | _ => none
  | _ => none
/-- the items of a list -/
def seqRef (S : Store) : D → Option (List D)
  | .rl xs => some xs
  | .ref a => match S a with
    | some (.lst xs) => some xs
    | _ => none
  | _ => none
def wpBlt : Blt → List D → Store → PQ → Prop
  | .len, [x], S, Q => match x with
    | .str s => s.length ≤ sizeLine ∧ Q (.int s.length) S
    | .ref a => (∃ xs, S a = some (.lst xs) ∧ Q (.int xs.length) S) ∨ (∃ kvs, S.rd a = some (.dic kvs) ∧ Q (.int kvs.length) S)
    | x => (∃ xs, seqOf S x = some xs ∧ Q (.int xs.length) S)
  | .int, [x], S, Q => match x with
    | .int i => Q (.int i) S
    | .bl b => Q (.int (if b then 1 else 0)) S
    | .str s => ∃ n, intText? s = some n ∧ s.length ≤ 640 ∧ Q (.int n) S
    | _ => False
  | .max, [.int i, .int j], S, Q => Q (.int (if j > i then j else i)) S
  | .min, [.int i, .int j], S, Q => Q (.int (if j < i then j else i)) S
  | .max, [x], S, Q => ∃ xs ns, seqOf S x = some xs ∧ intsOf xs = some ns ∧ 0 < ns.length ∧ ∀ m, m ∈ ns → (∀ y, y ∈ ns → y ≤ m) → Q (.int m) S
  | .min, [.ref a], S, Q => (∃ xs ns, S a = some (.lst xs) ∧ intsOf xs = some ns ∧ 0 < ns.length ∧ ∀ m, m ∈ ns → (∀ y, y ∈ ns → m ≤ y) → Q (.int m) S) ∨
      (∃ xs ts, S a = some (.lst xs) ∧ tupsOf xs = some ts ∧ 0 < ts.length ∧ ∀ m, m ∈ ts → (∀ y, y ∈ ts → HT.lexLt y m = false) → Q (.tup (m.map .int)) S)
  | .min, [x], S, Q => ∃ xs ns, seqOf S x = some xs ∧ intsOf xs = some ns ∧ 0 < ns.length ∧ ∀ m, m ∈ ns → (∀ y, y ∈ ns → m ≤ y) → Q (.int m) S
  | .abs, [.int i], S, Q => Q (.int (if i < 0 then -i else i)) S
  | .str, [.int i], S, Q => i.natAbs.log2 < 1920 ∧ Q (.str (toString i : String)) S
  | .list, [.ref a], S, Q => (∃ xs, S a = some (.lst xs) ∧ ∀ p, S p = none → Q (.ref p) (S.upd p (.lst xs))) ∨ (∃ kvs, S a = some (.dic kvs) ∧ ∀ p, S p = none → Q (.ref p) (S.upd p (.lst (kvs.map (·.1)))))
  | .list, [x], S, Q => ∃ xs, seqOf S x = some xs ∧ ∀ p, S p = none → Q (.ref p) (S.upd p (.lst xs))
  | .tuple, [x], S, Q => ∃ xs, seqOf S x = some xs ∧ Q (.tup xs) S
  | .sorted, [.ref a], S, Q => (∃ xs ns, S a = some (.lst xs) ∧ intsOf xs = some ns ∧ ∀ (ns' : List Int) p, ns'.Perm ns → ns'.Pairwise (· ≤ ·) → S p = none → Q (.ref p) (S.upd p (.lst (ns'.map .int)))) ∨
      (∃ kvs ks, S.rd a = some (.dic kvs) ∧ intsOf (kvs.map (·.1)) = some ks ∧ ks.length < 64 ∧ ∀ (ns' : List Int) p, ns'.Perm ks → ns'.Pairwise (· ≤ ·) → S p = none → Q (.ref p) (S.upd p (.lst (ns'.map .int)))) ∨
      (∃ xs ts, S a = some (.lst xs) ∧ tupsOf xs = some ts ∧ (∀ t ∈ ts, t ≠ []) ∧ ∀ (ts' : List (List Int)) p, ts'.Perm ts → ts'.Pairwise (fun x y => HT.lexLt y x = false) → S p = none → Q (.ref p) (S.upd p (.lst (ts'.map fun t => .tup (t.map .int)))))
  | .sum, [x], S, Q => ∃ xs ns, seqOf S x = some xs ∧ intsOf xs = some ns ∧ Q (.int ns.sum) S
  | .all, [.ref a], S, Q => ∃ xs bs, S a = some (.lst xs) ∧ blsOf xs = some bs ∧ Q (.bl (bs.all id)) S
  | .any, [.ref a], S, Q => ∃ xs bs, S a = some (.lst xs) ∧ blsOf xs = some bs ∧ Q (.bl (bs.any id)) S
  | _, _, _, _ => False
/-- the kind of a thing one of whose methods is called -/
def kdM (S : Store) : D → Option Kd
  | .str _ => some .str
  | .ref a => match S a with
    | some (.lst _) => some .lst
    | some (.dic _) => some .dic
    | _ => none
  | _ => none
def bmtId : Kd → Bmt → Option String
  | .lst, .append => some "list.append"
  | .lst, .extend => some "list.extend"
  | .lst, .clear => some "list.clear"
  | .lst, .pop => some "list.pop"
  | .lst, .remove => some "list.remove"
  | .str, .join => some "str.join"
  | .str, .split => some "str.split"
  | .dic, .get => some "dict.get"
  | .dic, .pop => some "dict.pop"
  | _, _ => none
def wpBmt (k : Kd) (m : Bmt) (x : D) (ds : List D) (S : Store) (Q : PQ) : Prop := match k, m, x, ds with
  | .lst, .append, .ref a, [d] => ∃ xs, S a = some (.lst xs) ∧ xs.length < sizeLine ∧ Q .non (S.upd a (.lst (xs ++ [d])))
  | .lst, .extend, .ref a, [.ref b] => ∃ xs ys, S a = some (.lst xs) ∧ S b = some (.lst ys) ∧ xs.length + ys.length ≤ sizeLine ∧ Q .non (S.upd a (.lst (xs ++ ys)))
  | .lst, .clear, .ref a, [] => ∃ xs, S a = some (.lst xs) ∧ Q .non (S.upd a (.lst []))
  | .lst, .pop, .ref a, [] => ∃ xs d, S a = some (.lst xs) ∧ xs[xs.length - 1]? = some d ∧ Q d (S.upd a (.lst xs.dropLast))
  | .lst, .pop, .ref a, [.int i] => ∃ xs k d, S a = some (.lst xs) ∧ -(2 ^ 63) ≤ i ∧ i < 2 ^ 63 ∧ seqIndex? i xs.length = some k ∧ xs[k]? = some d ∧ Q d (S.upd a (.lst (xs.eraseIdx k)))
  | .lst, .remove, .ref a, [.int i] => ∃ xs ns j, S a = some (.lst xs) ∧ intsOf xs = some ns ∧ ns[j]? = some i ∧ (∀ m : Nat, m < j → ns[m]? ≠ some i) ∧ Q .non (S.upd a (.lst ((ns.eraseIdx j).map .int)))
  | .str, .join, .str s, [x] => ∃ xs ys, seqOf S x = some xs ∧ strsOf xs = some ys ∧ (ys.map (·.length)).sum + ys.length * s.length ≤ 16777216 ∧ Q (.str (Txt.join s ys)) S
  | .str, .split, .str s, [.str t] => (t.length == 0) = false ∧ s.length + 2 ≤ sizeLine ∧ ∀ p, S p = none → Q (.ref p) (S.upd p (.lst ((Txt.split s t).map .str)))
  | .dic, .get, .ref a, [k] => ∃ kvs, S a = some (.dic kvs) ∧ isKey k = true ∧ Q ((getK k kvs).getD .non) S
  | .dic, .get, .ref a, [k, d] => ∃ kvs, S a = some (.dic kvs) ∧ isKey k = true ∧ Q ((getK k kvs).getD d) S
  | .dic, .pop, .ref a, [k] => ∃ kvs d, S a = some (.dic kvs) ∧ isKey k = true ∧ getK k kvs = some d ∧ Q d (S.upd a (.dic (delK k kvs)))
  | _, _, _, _ => False

/-- a question that is asked as a whole -/
inductive Gate : Prop where
  | mk (n : Nat) (h : n = 5)
structure Hold (p : Prop) : Prop where
  gate : Gate
  out : p
theorem hold {p : Prop} (h : p) : Hold p := ⟨.mk 5 rfl, h⟩
/-! ### expressions -/
abbrev Rec := Nat → List D → Store → PQ → PX → Prop
/-- the program's tables: which function a method of a class is; how many parameters; the class's maker -/
structure Prg where
  meth : Nat → Nat → Option Nat
  init : Nat → Option Nat
  sub : Nat → Nat → Option Bool
  isx : Nat → Option Nat → Option Bool
def noX : PX := fun _ _ => False
mutual
def asgT : Tg → D → Env → Option Env
  | .nm i, d, env => some (env.set i (some d))
  | .tup ts, d, env => match d with
    | .tup ds => asgTs ts ds env
    | _ => none
def asgTs : Tgs → List D → Env → Option Env
  | .nil, ds, env => match ds with
    | [] => some env
    | _ :: _ => none
  | .cons t ts, ds, env => match ds with
    | [] => none
    | d :: ds => match asgT t d env with
      | none => none
      | some env' => asgTs ts ds env'
end
def wipeE (env : Env) : List Nat → Env
  | [] => env
  | v :: vs => (wipeE env vs).set v none
/-- the turns of a comprehension: the new list at p -/
def compLoop (guard : Store → Prop) (G : D → Option Env) (C : Env → Store → PQ → Prop) (V : Env → Store → PQ → Prop) (p : Addr) (Q : Store → Prop) : List D → Store → Prop
  | [], S => guard S ∧ Q S
  | d :: ds, S => guard S ∧ ∃ env, G d = some env ∧ C env S fun b S3 => ∃ c, b = .bl c ∧
      if c = true then V env S3 fun y S4 => ∃ acc, S4 p = some (.lst acc) ∧ acc.length < sizeLine ∧ compLoop guard G C V p Q ds (S4.upd p (.lst (acc ++ [y])))
      else compLoop guard G C V p Q ds S3
def rngL (lo hi : Int) : List D := (List.range (hi - lo).toNat).map fun (k : Nat) => .int (lo + (k : Int))
def enuL (xs : List D) : List D := (List.range xs.length).zipWith (fun (k : Nat) x => .tup [.int (k : Int), x]) xs
def zipL (xs ys : List D) : List D := List.zipWith (fun x y => .tup [x, y]) xs ys
def wpZip (x y : D) (S : Store) (K : List D → (Store → Prop) → Prop) : Prop :=
  (∃ xs ys, x = .tup xs ∧ y = .tup ys ∧ K (zipL xs ys) fun _ => True) ∨
  (∃ a b xs ys, x = .ref a ∧ y = .ref b ∧ S a = some (.lst xs) ∧ S b = some (.lst ys) ∧ K (zipL xs ys) fun S' => S' a = some (.lst xs) ∧ S' b = some (.lst ys))
def small (i : Int) : Prop := -(2 ^ 62) ≤ i ∧ i < 2 ^ 62
/-- the items of a thing that is walked, and what has to stay so at each turn -/
def wpSeq (x : D) (S : Store) (K : List D → (Store → Prop) → Prop) : Prop := match x with
  | .tup xs => K xs fun _ => True
  | .rl xs => K xs fun _ => True
  | .ref a => ∃ xs, S a = some (.lst xs) ∧ K xs fun S' => S' a = some (.lst xs)
  | .str s => K (s.cps.toList.map fun c => .str ⟨#[c]⟩) fun _ => True
  | _ => False
section
variable (P : Prg) (R RM : Rec)
mutual
def wpE : Ex → Env → Store → PQ → PX → Prop
  | .var i, env, S, Q, _ => ∃ d, env[i]? = some (some d) ∧ Q d S
  | .cst d, _, S, Q, _ => Q d S
  | .tup es, env, S, Q, E => wpEs es env S (fun ds S1 => ds.length ≤ sizeLine ∧ Q (.tup ds) S1) E
  | .lst es, env, S, Q, E => wpEs es env S (fun ds S1 => ds.length ≤ sizeLine ∧ ∀ p, S1 p = none → Q (.ref p) (S1.upd p (.lst ds))) E
  | .dic ks _, env, S, Q, E => ∀ p, S p = none → match ks with
    | .nil => Q (.ref p) (S.upd p (.dic []))
    | .cons _ _ => wpEs ks env (S.upd p (.dic [])) (fun ds S2 => S2 p = some (.dic []) ∧ ∃ kvs, pairsOf ds = some kvs ∧ kvs.length ≤ 15 ∧ Q (.ref p) (S2.upd p (.dic (mergeD [] kvs)))) E
  | .lrg a b, env, S, Q, E => wpE a env S (fun x S1 => wpE b env S1 (fun y S2 => ∃ i j, x = .int i ∧ y = .int j ∧ small i ∧ small j ∧ (j - i).toNat ≤ 16777216 ∧ ∀ p, S2 p = none → Q (.ref p) (S2.upd p (.lst (rngL i j)))) E) E
  | .bin o a b, env, S, Q, E => wpE a env S (fun x S1 => wpE b env S1 (fun y S2 => wpBin o x y S2 Q) E) E
  | .neg a, env, S, Q, E => wpE a env S (fun x S1 => ∃ i, x = .int i ∧ Q (.int (-i)) S1) E
  | .no a, env, S, Q, E => wpE a env S (fun x S1 => ∃ c, x = .bl c ∧ Q (.bl (!c)) S1) E
  | .an a b, env, S, Q, E => wpE a env S (fun x S1 => ∃ c, x = .bl c ∧ if c = true then wpE b env S1 Q E else Q (.bl false) S1) E
  | .or a b, env, S, Q, E => wpE a env S (fun x S1 => ∃ c, x = .bl c ∧ if c = true then Q (.bl true) S1 else wpE b env S1 Q E) E
  | .cmp o a b, env, S, Q, E => wpE a env S (fun x S1 => wpE b env S1 (fun y S2 => wpCop o x y S2 fun c => Q (.bl c) S2) E) E
  | .chn o o' a b c, env, S, Q, E => wpE a env S (fun x S1 => wpE b env S1 (fun y S2 => wpCop o x y S2 fun k => ∃ c', D.bl k = .bl c' ∧ if c' = true then
      wpE c env S2 (fun z S3 => wpCop o' y z S3 fun k' => Q (.bl k') S3) E else Q (.bl false) S2) E) E
  | .ife t a b, env, S, Q, E => wpE t env S (fun x S1 => ∃ c, x = .bl c ∧ if c = true then wpE a env S1 Q E else wpE b env S1 Q E) E
  | .ix a b, env, S, Q, E => wpE a env S (fun x S1 => wpE b env S1 (fun y S2 => wpIx x y S2 fun d => Q d S2) E) E
  | .slc a lo hi, env, S, Q, E => wpE a env S (fun x S1 => wpO lo env S1 (fun l S2 => wpO hi env S2 (fun h S3 => wpSl x l h S3 Q) E) E) E
  | .rvs a, env, S, Q, E => wpE a env S (fun x S1 => ∃ xs, seqRef S1 x = some xs ∧ ∀ p, S1 p = none → Q (.ref p) (S1.upd p (.lst xs.reverse))) E
  | .fld a f, env, S, Q, E => wpE a env S (fun x S1 => ∃ p c fs d, x = .ref p ∧ S1 p = some (.ins c fs) ∧ fs.lookup f = some d ∧ Q d S1) E
  | .call f es, env, S, Q, E => wpEs es env S (fun ds S1 => R f ds S1 Q E) E
  | .mk c es, env, S, Q, E => wpEs es env S (fun ds S1 => ∃ f, P.init c = some f ∧ ∀ p, S1 p = none →
      RM f (.ref p :: ds) (S1.upd p (.ins c [])) (fun v S2 => v = .non ∧ Q (.ref p) S2) E) E
  | .meth a m es, env, S, Q, E => wpE a env S (fun x S1 => ∃ p c fs f, x = .ref p ∧ S1 p = some (.ins c fs) ∧ P.meth c m = some f ∧
      wpEs es env S1 (fun ds S2 => R f (.ref p :: ds) S2 Q E) E) E
  | .blt b es, env, S, Q, E => wpEs es env S (fun ds S1 => wpBlt b ds S1 Q) E
  | .bmt a m es, env, S, Q, E => wpE a env S (fun x S1 => ∃ k, kdM S1 x = some k ∧ (bmtId k m).isSome = true ∧ wpEs es env S1 (fun ds S2 => wpBmt k m x ds S2 Q) E) E
  | .isi a ts, env, S, Q, E => wpE a env S (fun x S1 => ∃ k b, kdOf S1 x = some k ∧ isTys k ts = some b ∧ Q (.bl b) S1) E
  | .comp e tg it c own, env, S, Q, E => wpI it env S (fun items guard S1 => ∀ p, S1 p = none →
      Hold (compLoop guard (fun d => asgT tg d (wipeE env own)) (fun env S Q => wpE c env S Q noX) (fun env S Q => wpE e env S Q noX) p (Q (.ref p)) items (S1.upd p (.lst [])))) E
def wpEs : Exs → Env → Store → (List D → Store → Prop) → PX → Prop
  | .nil, _, S, Q, _ => Q [] S
  | .cons e es, env, S, Q, E => wpE e env S (fun d S1 => wpEs es env S1 (fun ds S2 => Q (d :: ds) S2) E) E
def wpO : Ox → Env → Store → (Option Int → Store → Prop) → PX → Prop
  | .no, _, S, Q, _ => Q none S
  | .some e, env, S, Q, E => wpE e env S (fun d S1 => ∃ i, d = .int i ∧ Q (some i) S1) E
def wpI : Itx → Env → Store → (List D → (Store → Prop) → Store → Prop) → PX → Prop
  | .seq e, env, S, K, E => wpE e env S (fun x S1 => wpSeq x S1 fun xs g => K xs g S1) E
  | .rng1 a, env, S, K, E => wpE a env S (fun x S1 => ∃ j, x = .int j ∧ small j ∧ K (rngL 0 j) (fun _ => True) S1) E
  | .rng2 a b, env, S, K, E => wpE a env S (fun x S1 => wpE b env S1 (fun y S2 => ∃ i j, x = .int i ∧ y = .int j ∧ small i ∧ small j ∧ K (rngL i j) (fun _ => True) S2) E) E
  | .enu e, env, S, K, E => wpE e env S (fun x S1 => (∃ xs, (x = .tup xs ∨ x = .rl xs) ∧ K (enuL xs) (fun _ => True) S1) ∨
      (∃ a xs, x = .ref a ∧ S1 a = some (.lst xs) ∧ K (enuL xs) (fun S' => S' a = some (.lst xs)) S1)) E
  | .zip a b, env, S, K, E => wpE a env S (fun x S1 => wpE b env S1 (fun y S2 => wpZip x y S2 fun xs g => K xs g S2) E) E
  | .rev _, _, _, _, _ => False
end

/-! ### statements -/
structure Kt where
  nx : Env → Store → Prop
  rt : D → Store → Prop
  bk : Env → Store → Prop
  ct : Env → Store → Prop
  ex : Env → PX
def forLoop (guard : Store → Prop) (G : D → Env → Option Env) (B : Env → Store → Kt → Prop) (K : Kt) : List D → Env → Store → Prop
  | [], env, S => guard S ∧ K.nx env S
  | d :: ds, env, S => guard S ∧ ∃ env2, G d env = some env2 ∧ B env2 S { K with nx := forLoop guard G B K ds, ct := forLoop guard G B K ds, bk := K.nx }
def whileN (T : Env → Store → PQ → Prop) (B : Env → Store → Kt → Prop) (K : Kt) : Nat → Env → Store → Prop
  | 0, _, _ => False
  | n + 1, env, S => T env S fun b S1 => ∃ c, b = .bl c ∧ if c = true then B env S1 { K with nx := whileN T B K n, ct := whileN T B K n, bk := K.nx } else K.nx env S1
def itemsD (items : Bool) (kvs : List (D × D)) : List D := if items then kvs.map fun q => .tup [q.1, q.2] else kvs.map (·.1)
def unlock (a : Addr) (c : Cell) (S : Store) : Store := S.upd a c
/-! except suites -/
def anyI (P : Prg) (c' : Nat) : List (Option Nat) → Option Bool
  | [] => some false
  | c :: cs => match P.isx c' c with
    | some true => some true
    | some false => anyI P c' cs
    | none => none
def wpBinI : Bop → D → D → (D → Prop) → Prop
  | .add, .int i, .int j, Q => Q (.int (i + j))
  | .sub, .int i, .int j, Q => Q (.int (i - j))
  | .mul, .int i, .int j, Q => L2.CMul i j ∧ Q (.int (i * j))
  | _, _, _, _ => False
def wpQx (P : Prg) (c' : Nat) : Qx → Env → (D → Prop) → Prop
  | .cst d, _, Q => Q d
  | .var i, env, Q => ∃ d, env[i]? = some (some d) ∧ Q d
  | .isx cs, _, Q => ∃ b, anyI P c' cs = some b ∧ Q (.bl b)
  | .an a b, env, Q => wpQx P c' a env fun x => ∃ c, x = .bl c ∧ if c = true then wpQx P c' b env Q else Q (.bl false)
  | .or a b, env, Q => wpQx P c' a env fun x => ∃ c, x = .bl c ∧ if c = true then Q (.bl true) else wpQx P c' b env Q
  | .no a, env, Q => wpQx P c' a env fun x => ∃ c, x = .bl c ∧ Q (.bl (!c))
  | .int a, env, Q => wpQx P c' a env fun x => ∃ c, x = .bl c ∧ Q (.int (if c = true then 1 else 0))
  | .bin o a b, env, Q => wpQx P c' a env fun x => wpQx P c' b env fun y => wpBinI o x y Q
def wpQxs (P : Prg) (c' : Nat) : List Qx → Env → (List D → Prop) → Prop
  | [], _, Q => Q []
  | e :: es, env, Q => wpQx P c' e env fun d => wpQxs P c' es env fun ds => Q (d :: ds)
def wpQm (P : Prg) (c' : Nat) : Qm → Env → Store → (Env → Store → Prop) → Prop
  | .asg i e, env, S, K => wpQx P c' e env fun d => K (env.set i (some d)) S
  | .lst i es, env, S, K => wpQxs P c' es env fun ds => ds.length ≤ sizeLine ∧ ∀ p, S p = none → K (env.set i (some (.ref p))) (S.upd p (.lst ds))
  | .app i e, env, S, K => ∃ p, env[i]? = some (some (.ref p)) ∧ ∃ xs0, S p = some (.lst xs0) ∧ wpQx P c' e env fun d => ∃ xs, S p = some (.lst xs) ∧ xs.length < sizeLine ∧ K env (S.upd p (.lst (xs ++ [d])))
def wpQ (P : Prg) (c' : Nat) : List Qm → Env → Store → (Env → Store → Prop) → Prop
  | [], env, S, K => K env S
  | m :: ms, env, S, K => wpQm P c' m env S fun env' S' => wpQ P c' ms env' S' K
/-- x[y], where x[y] is stored behind -/
def wpGx (x y : D) (S : Store) (Q : D → Prop) : Prop := (∃ p xs i d, x = .ref p ∧ S p = some (.lst xs) ∧ y = .int i ∧ L2.atI xs i = some d ∧ Q d) ∨ (∃ p kvs d, x = .ref p ∧ S p = some (.dic kvs) ∧ isKey y = true ∧ getK y kvs = some d ∧ Q d)
theorem wpGx_mono {x y : D} {S : Store} {Q Q' : D → Prop} (h : ∀ d, Q d → Q' d) : wpGx x y S Q → wpGx x y S Q'
  | .inl ⟨p, xs, i, d, a, b, c, e, f⟩ => .inl ⟨p, xs, i, d, a, b, c, e, h d f⟩
  | .inr ⟨p, xs, d, a, b, c, e, f⟩ => .inr ⟨p, xs, d, a, b, c, e, h d f⟩
def setO (env : Env) (en : Option Nat) (x : Option D) : Env := match en with
  | none => env
  | some i => env.set i x
mutual
def wpS : Sm → Env → Store → Kt → Prop
  | .asg t e, env, S, K => wpE P R RM e env S (fun d S1 => ∃ env2, asgT t d env = some env2 ∧ K.nx env2 S1) (K.ex env)
  | .asF a f e, env, S, K => wpE P R RM e env S (fun d S1 => wpE P R RM a env S1 (fun x S2 => ∃ p c fs, x = .ref p ∧ S2 p = some (.ins c fs) ∧ fs.length < 1000 ∧
      K.nx env (S2.upd p (.ins c (putN f d fs)))) (K.ex env)) (K.ex env)
  | .asS a i e, env, S, K => wpE P R RM e env S (fun d S1 => wpE P R RM a env S1 (fun x S2 => wpE P R RM i env S2 (fun y S3 => 
      (∃ p xs k j, x = .ref p ∧ S3 p = some (.lst xs) ∧ y = .int k ∧ L2.ixN xs.length k = some j ∧ K.nx env (S3.upd p (.lst (xs.set j d)))) ∨
      (∃ p kvs, x = .ref p ∧ S3 p = some (.dic kvs) ∧ isKey y = true ∧ kvs.length < sizeLine ∧ K.nx env (S3.upd p (.dic (putK y d kvs))))) (K.ex env)) (K.ex env)) (K.ex env)
  | .aug i o e, env, S, K => ∃ x, env[i]? = some (some x) ∧ wpE P R RM e env S (fun y S1 => wpAug o x y fun z => K.nx (env.set i (some z)) S1) (K.ex env)
  | .auF a f o e, env, S, K => wpE P R RM a env S (fun x S1 => ∃ p c fs v, x = .ref p ∧ S1 p = some (.ins c fs) ∧ fs.lookup f = some v ∧
      wpE P R RM e env S1 (fun y S2 => wpAug o v y fun z => ∃ fs', S2 p = some (.ins c fs') ∧ fs'.length < 1000 ∧ K.nx env (S2.upd p (.ins c (putN f z fs')))) (K.ex env)) (K.ex env)
  | .auS a i o e, env, S, K => wpE P R RM a env S (fun x S1 => wpE P R RM i env S1 (fun y S2 => wpGx x y S2 fun v => wpE P R RM e env S2 (fun w S3 => wpAug o v w fun z =>
      (∃ p xs k j, x = .ref p ∧ S3 p = some (.lst xs) ∧ y = .int k ∧ L2.ixN xs.length k = some j ∧ K.nx env (S3.upd p (.lst (xs.set j z)))) ∨
      (∃ p kvs, x = .ref p ∧ S3 p = some (.dic kvs) ∧ isKey y = true ∧ kvs.length < sizeLine ∧ K.nx env (S3.upd p (.dic (putK y z kvs))))) (K.ex env)) (K.ex env)) (K.ex env)
  | .ex e, env, S, K => wpE P R RM e env S (fun _ S1 => K.nx env S1) (K.ex env)
  | .ret e, env, S, K => wpE P R RM e env S K.rt (K.ex env)
  | .retN, _, S, K => K.rt .non S
  | .ite t a b, env, S, K => wpE P R RM t env S (fun x S1 => ∃ c, x = .bl c ∧ if c = true then wpSs a env S1 K else wpSs b env S1 K) (K.ex env)
  | .for_ t it b, env, S, K => wpI P R RM it env S (fun items guard S1 => Hold (forLoop guard (asgT t) (wpSs b) K items env S1)) (K.ex env)
  | .forD t items e b, env, S, K => ∃ a kvs, S a = some (.dic kvs) ∧ wpE P R RM e env (S.upd a (.fz (.dic kvs))) (fun x S1 => x = .ref a ∧
      Hold (forLoop (fun S' => S' a = some (.fz (.dic kvs))) (asgT t) (wpSs b)
        { nx := fun env' S' => S' a = some (.fz (.dic kvs)) ∧ K.nx env' (S'.upd a (.dic kvs)), rt := fun d S' => S' a = some (.fz (.dic kvs)) ∧ K.rt d (S'.upd a (.dic kvs)), bk := fun _ _ => False, ct := fun _ _ => False, ex := fun _ => noX }
        (itemsD items kvs) env S1)) noX
  | .while_ t b, env, S, K => Hold (∃ n, whileN (fun env S Q => wpE P R RM t env S Q (K.ex env)) (wpSs b) K n env S)
  | .try_ b c en q, env, S, K => wpSs b env S { K with ex := fun env' c' S' => ∃ b, P.sub c' c = some b ∧ if b = true then (∀ a, wpQ P c' q (setO env' en (some (.ref a))) S' fun e2 S2 => K.nx (setO e2 en none) S2) else K.ex env' c' S' }
  | .pass, env, S, K => K.nx env S
  | .cont, env, S, K => K.ct env S
  | .brk, env, S, K => K.bk env S
  | .raise c, env, S, K => K.ex env c S
def wpSs : Sms → Env → Store → Kt → Prop
  | .nil, env, S, K => K.nx env S
  | .cons s ss, env, S, K => wpS s env S { K with nx := fun env' S' => wpSs ss env' S' K }
end
end
end SW
/-! SW, part B: monotone. -/
namespace SW
open PySem
theorem wpBin_mono {o : Bop} {x y : D} {S : Store} {Q Q' : PQ} (hq : ∀ d S, Q d S → Q' d S) (h : wpBin o x y S Q) : wpBin o x y S Q' := by
  unfold wpBin at h ⊢
  split at h
  case h_4 => obtain ⟨xs, ys, h1, h2, h3, h4⟩ := h; exact ⟨xs, ys, h1, h2, h3, fun p hp => hq _ _ (h4 p hp)⟩
  case h_6 => obtain ⟨xs, h1, h2, h3, h4, h5⟩ := h; exact ⟨xs, h1, h2, h3, h4, fun p hp => hq _ _ (h5 p hp)⟩
  all_goals first | exact h | exact hq _ _ h | exact ⟨h.1, hq _ _ h.2⟩
theorem wpAug_mono {o : Bop} {x y : D} {Q Q' : D → Prop} (hq : ∀ d, Q d → Q' d) (h : wpAug o x y Q) : wpAug o x y Q' := by
  unfold wpAug at h ⊢
  split at h
  · exact hq _ h
  · exact hq _ h
  · exact ⟨h.1, hq _ h.2⟩
  · exact h
theorem wpIn_mono {x y : D} {S : Store} {Q Q' : Bool → Prop} (hq : ∀ b, Q b → Q' b) (h : wpIn x y S Q) : wpIn x y S Q' := by
  unfold wpIn at h ⊢
  split at h
  · exact ⟨h.1, h.2.1, hq _ h.2.2⟩
  · rcases h with ⟨ys, a, b, c, d⟩ | ⟨kvs, a, b, c⟩
    · exact .inl ⟨ys, a, b, c, hq _ d⟩
    · exact .inr ⟨kvs, a, b, hq _ c⟩
  · split at h
    · exact hq _ h
    · exact h
  · exact h
theorem wpEq_mono {x y : D} {S : Store} {Q Q' : Bool → Prop} (hq : ∀ b, Q b → Q' b) (h : wpEq x y S Q) : wpEq x y S Q' := by
  unfold wpEq at h ⊢
  split at h
  · exact hq _ h
  · obtain ⟨n, p, q, a, b, c, d, e⟩ := h
    exact ⟨n, p, q, a, b, c, d, hq _ e⟩
theorem wpLt_mono {x y : D} {Q Q' : Bool → Prop} (hq : ∀ b, Q b → Q' b) (h : wpLt x y Q) : wpLt x y Q' := by
  unfold wpLt at h ⊢
  split at h
  · exact hq _ h
  · obtain ⟨n, m, a, b, c⟩ := h
    exact ⟨n, m, a, b, hq _ c⟩
  · exact h
theorem wpCop_mono {o : Cop} {x y : D} {S : Store} {Q Q' : Bool → Prop} (hq : ∀ b, Q b → Q' b) (h : wpCop o x y S Q) : wpCop o x y S Q' := by
  unfold wpCop at h ⊢
  split at h
  · exact wpEq_mono hq h
  · exact wpEq_mono (fun b => hq (!b)) h
  · exact wpLt_mono hq h
  · exact wpLt_mono hq h
  · exact hq _ h
  · exact hq _ h
  · exact hq _ h
  · exact hq _ h
  · exact wpIn_mono hq h
  · exact wpIn_mono (fun b => hq (!b)) h
  · exact h
theorem wpIx_mono {x y : D} {S : Store} {Q Q' : D → Prop} (hq : ∀ b, Q b → Q' b) (h : wpIx x y S Q) : wpIx x y S Q' := by
  unfold wpIx at h ⊢
  split at h
  · obtain ⟨i, d, a, b, c⟩ := h; exact ⟨i, d, a, b, hq _ c⟩
  · obtain ⟨i, d, a, b, c⟩ := h; exact ⟨i, d, a, b, hq _ c⟩
  · obtain ⟨i, d, a, b, c, e⟩ := h; exact ⟨i, d, a, b, c, hq _ e⟩
  · rcases h with ⟨xs, i, d, a, b, c, e⟩ | ⟨xs, d, a, b, c, e⟩
    · exact .inl ⟨xs, i, d, a, b, c, hq _ e⟩
    · exact .inr ⟨xs, d, a, b, c, hq _ e⟩
  · exact h
theorem wpSl_mono {x : D} {l u : Option Int} {S : Store} {Q Q' : PQ} (hq : ∀ d S, Q d S → Q' d S) (h : wpSl x l u S Q) : wpSl x l u S Q' := by
  unfold wpSl at h ⊢
  split at h
  · exact hq _ _ h
  · exact ⟨h.1, hq _ _ h.2⟩
  · obtain ⟨xs, a, b⟩ := h; exact ⟨xs, a, fun p hp => hq _ _ (b p hp)⟩
  · exact fun p hp => hq _ _ (h p hp)
  · exact h
theorem wpBlt_mono {b : Blt} {ds : List D} {S : Store} {Q Q' : PQ} (hq : ∀ d S, Q d S → Q' d S) (h : wpBlt b ds S Q) : wpBlt b ds S Q' := by
  unfold wpBlt at h ⊢
  split at h
  · split at h
    · exact ⟨h.1, hq _ _ h.2⟩
    · rcases h with ⟨xs, a, b⟩ | ⟨xs, a, b⟩
      · exact .inl ⟨xs, a, hq _ _ b⟩
      · exact .inr ⟨xs, a, hq _ _ b⟩
    · obtain ⟨xs, a, b⟩ := h; exact ⟨xs, a, hq _ _ b⟩
  · split at h
    · exact hq _ _ h
    · exact hq _ _ h
    · obtain ⟨n, a, b, c⟩ := h; exact ⟨n, a, b, hq _ _ c⟩
    · exact h
  · exact hq _ _ h
  · exact hq _ _ h
  · obtain ⟨xs, ns, a, b, c, d⟩ := h; exact ⟨xs, ns, a, b, c, fun m h1 h2 => hq _ _ (d m h1 h2)⟩
  · rcases h with ⟨xs, ns, a, b, c, d⟩ | ⟨xs, ns, a, b, c, d⟩
    · exact .inl ⟨xs, ns, a, b, c, fun m h1 h2 => hq _ _ (d m h1 h2)⟩
    · exact .inr ⟨xs, ns, a, b, c, fun m h1 h2 => hq _ _ (d m h1 h2)⟩
  · obtain ⟨xs, ns, a, b, c, d⟩ := h; exact ⟨xs, ns, a, b, c, fun m h1 h2 => hq _ _ (d m h1 h2)⟩
  · exact hq _ _ h
  · exact ⟨h.1, hq _ _ h.2⟩
  · rcases h with ⟨xs, a, b⟩ | ⟨xs, a, b⟩
    · exact .inl ⟨xs, a, fun p hp => hq _ _ (b p hp)⟩
    · exact .inr ⟨xs, a, fun p hp => hq _ _ (b p hp)⟩
  · obtain ⟨xs, a, b⟩ := h; exact ⟨xs, a, fun p hp => hq _ _ (b p hp)⟩
  · obtain ⟨xs, a, b⟩ := h; exact ⟨xs, a, hq _ _ b⟩
  · rcases h with ⟨xs, ns, a, b, c⟩ | ⟨xs, ns, a, b, l, c⟩ | ⟨xs, ns, a, b, l, c⟩
    · exact .inl ⟨xs, ns, a, b, fun ns' p h1 h2 h3 => hq _ _ (c ns' p h1 h2 h3)⟩
    · exact .inr (.inl ⟨xs, ns, a, b, l, fun ns' p h1 h2 h3 => hq _ _ (c ns' p h1 h2 h3)⟩)
    · exact .inr (.inr ⟨xs, ns, a, b, l, fun ns' p h1 h2 h3 => hq _ _ (c ns' p h1 h2 h3)⟩)
  · obtain ⟨xs, ns, a, b, c⟩ := h; exact ⟨xs, ns, a, b, hq _ _ c⟩
  · obtain ⟨xs, ns, a, b, c⟩ := h; exact ⟨xs, ns, a, b, hq _ _ c⟩
  · obtain ⟨xs, ns, a, b, c⟩ := h; exact ⟨xs, ns, a, b, hq _ _ c⟩
  · exact h
theorem wpBmt_mono {k : Kd} {m : Bmt} {x : D} {ds : List D} {S : Store} {Q Q' : PQ} (hq : ∀ d S, Q d S → Q' d S) (h : wpBmt k m x ds S Q) : wpBmt k m x ds S Q' := by
  unfold wpBmt at h ⊢
  split at h
  · obtain ⟨xs, a, b, c⟩ := h; exact ⟨xs, a, b, hq _ _ c⟩
  · obtain ⟨xs, ys, a, b, c, d⟩ := h; exact ⟨xs, ys, a, b, c, hq _ _ d⟩
  · obtain ⟨xs, a, c⟩ := h; exact ⟨xs, a, hq _ _ c⟩
  · obtain ⟨xs, d, a, b, c⟩ := h; exact ⟨xs, d, a, b, hq _ _ c⟩
  · obtain ⟨xs, k, d, a, b, c, e, f, g⟩ := h; exact ⟨xs, k, d, a, b, c, e, f, hq _ _ g⟩
  · obtain ⟨xs, ns, j, a, b, c, e, f⟩ := h; exact ⟨xs, ns, j, a, b, c, e, hq _ _ f⟩
  · obtain ⟨xs, ys, a, b, c, d⟩ := h; exact ⟨xs, ys, a, b, c, hq _ _ d⟩
  · exact ⟨h.1, h.2.1, fun p hp => hq _ _ (h.2.2 p hp)⟩
  · obtain ⟨xs, a, b, c⟩ := h; exact ⟨xs, a, b, hq _ _ c⟩
  · obtain ⟨xs, a, b, c⟩ := h; exact ⟨xs, a, b, hq _ _ c⟩
  · obtain ⟨xs, d, a, b, c, e⟩ := h; exact ⟨xs, d, a, b, c, hq _ _ e⟩
  · exact h
theorem wpSeq_mono {x : D} {S : Store} {K K' : List D → (Store → Prop) → Prop} (hk : ∀ xs g, K xs g → K' xs g) (h : wpSeq x S K) : wpSeq x S K' := by
  unfold wpSeq at h ⊢
  split at h
  · exact hk _ _ h
  · exact hk _ _ h
  · obtain ⟨xs, a, b⟩ := h; exact ⟨xs, a, hk _ _ b⟩
  · exact hk _ _ h
  · exact h
def MonoR (R : Rec) : Prop := ∀ f ds S Q Q' E E', (∀ d S, Q d S → Q' d S) → (∀ c S, E c S → E' c S) → R f ds S Q E → R f ds S Q' E'
theorem compLoop_mono {guard : Store → Prop} {G : D → Option Env} {C V : Env → Store → PQ → Prop} {p : Addr} {Q Q' : Store → Prop} (hq : ∀ S, Q S → Q' S)
    (hC : ∀ env S Q Q', (∀ d S, Q d S → Q' d S) → C env S Q → C env S Q') (hV : ∀ env S Q Q', (∀ d S, Q d S → Q' d S) → V env S Q → V env S Q') :
    ∀ items S, compLoop guard G C V p Q items S → compLoop guard G C V p Q' items S
  | [], S, h => ⟨h.1, hq _ h.2⟩
  | d :: ds, S, ⟨g, env, e, h⟩ => by
    refine ⟨g, env, e, hC _ _ _ _ (fun b S3 h3 => ?_) h⟩
    obtain ⟨c, e1, h3⟩ := h3
    refine ⟨c, e1, ?_⟩
    cases c with
    | true =>
      rw [if_pos rfl] at h3 ⊢
      refine hV _ _ _ _ (fun y S4 h4 => ?_) h3
      obtain ⟨acc, a, b, c⟩ := h4
      exact ⟨acc, a, b, compLoop_mono hq hC hV ds _ c⟩
    | false =>
      rw [if_neg Bool.false_ne_true] at h3 ⊢
      exact compLoop_mono hq hC hV ds _ h3
section
variable {P : Prg} {R RM : Rec} (mR : MonoR R) (mM : MonoR RM)
include mR mM
mutual
theorem wpE_mono : ∀ (e : Ex) {env : Env} {S : Store} {Q Q' : PQ} {E E' : PX}, (∀ d S, Q d S → Q' d S) → (∀ c S, E c S → E' c S) → wpE P R RM e env S Q E → wpE P R RM e env S Q' E'
  | .var i, _, _, _, _, _, _, hq, hE, h => by
    obtain ⟨d, a, b⟩ := h
    exact ⟨d, a, hq _ _ b⟩
  | .cst d, _, _, _, _, _, _, hq, hE, h => hq _ _ h
  | .tup es, _, _, _, _, _, _, hq, hE, h => wpEs_mono es (fun ds S1 h1 => ⟨h1.1, hq _ _ h1.2⟩) hE h
  | .lst es, _, _, _, _, _, _, hq, hE, h => wpEs_mono es (fun ds S1 h1 => ⟨h1.1, fun p hp => hq _ _ (h1.2 p hp)⟩) hE h
  | .dic ks _, _, _, _, _, _, _, hq, hE, h => fun p hp => by
      have h := h p hp
      cases ks with
      | nil => exact hq _ _ h
      | cons e es => exact wpEs_mono (.cons e es) (fun ds S2 ⟨h1, kvs, h2, h3, h4⟩ => ⟨h1, kvs, h2, h3, hq _ _ h4⟩) hE h
  | .lrg a b, _, _, _, _, _, _, hq, hE, h => wpE_mono a (fun x S1 h1 => wpE_mono b (fun y S2 ⟨i, j, a, b, c, d, e, f⟩ => ⟨i, j, a, b, c, d, e, fun p hp => hq _ _ (f p hp)⟩) hE h1) hE h
  | .bin o a b, _, _, _, _, _, _, hq, hE, h => wpE_mono a (fun x S1 h1 => wpE_mono b (fun y S2 h2 => wpBin_mono hq h2) hE h1) hE h
  | .neg a, _, _, _, _, _, _, hq, hE, h => wpE_mono a (fun x S1 ⟨i, a, b⟩ => ⟨i, a, hq _ _ b⟩) hE h
  | .no a, _, _, _, _, _, _, hq, hE, h => wpE_mono a (fun x S1 ⟨i, a, b⟩ => ⟨i, a, hq _ _ b⟩) hE h
  | .an a b, _, _, _, _, _, _, hq, hE, h => wpE_mono a (fun x S1 ⟨c, e, h1⟩ => ⟨c, e, by
      cases c with
      | true => exact wpE_mono b hq hE h1
      | false => exact hq _ _ h1⟩) hE h
  | .or a b, _, _, _, _, _, _, hq, hE, h => wpE_mono a (fun x S1 ⟨c, e, h1⟩ => ⟨c, e, by
      cases c with
      | true => exact hq _ _ h1
      | false => exact wpE_mono b hq hE h1⟩) hE h
  | .cmp o a b, _, _, _, _, _, _, hq, hE, h => wpE_mono a (fun x S1 h1 => wpE_mono b (fun y S2 h2 => wpCop_mono (fun c h3 => hq _ _ h3) h2) hE h1) hE h
  | .chn o o' a b c, _, _, _, _, _, _, hq, hE, h => wpE_mono a (fun x S1 h1 => wpE_mono b (fun y S2 h2 => wpCop_mono (fun k ⟨k', ek, h3⟩ => ⟨k', ek, by
      cases k' with
      | true => exact wpE_mono c (fun z S3 h4 => wpCop_mono (fun k' h5 => hq _ _ h5) h4) hE h3
      | false => exact hq _ _ h3⟩) h2) hE h1) hE h
  | .ife t a b, _, _, _, _, _, _, hq, hE, h => wpE_mono t (fun x S1 ⟨c, e, h1⟩ => ⟨c, e, by
      cases c with
      | true => exact wpE_mono a hq hE h1
      | false => exact wpE_mono b hq hE h1⟩) hE h
  | .ix a b, _, _, _, _, _, _, hq, hE, h => wpE_mono a (fun x S1 h1 => wpE_mono b (fun y S2 h2 => wpIx_mono (fun d h3 => hq _ _ h3) h2) hE h1) hE h
  | .slc a lo hi, _, _, _, _, _, _, hq, hE, h => wpE_mono a (fun x S1 h1 => wpO_mono lo (fun l S2 h2 => wpO_mono hi (fun u S3 h3 => wpSl_mono hq h3) hE h2) hE h1) hE h
  | .rvs a, _, _, _, _, _, _, hq, hE, h => wpE_mono a (fun x S1 ⟨xs, h1, h2⟩ => ⟨xs, h1, fun p hp => hq _ _ (h2 p hp)⟩) hE h
  | .fld a f, _, _, _, _, _, _, hq, hE, h => wpE_mono a (fun x S1 ⟨p, c, fs, d, h1, h2, h3, h4⟩ => ⟨p, c, fs, d, h1, h2, h3, hq _ _ h4⟩) hE h
  | .call f es, _, _, _, _, _, _, hq, hE, h => wpEs_mono es (fun ds S1 h1 => mR _ _ _ _ _ _ _ hq hE h1) hE h
  | .mk c es, _, _, _, _, _, _, hq, hE, h => wpEs_mono es (fun ds S1 ⟨f, a, h1⟩ => ⟨f, a, fun p hp => mM _ _ _ _ _ _ _ (fun v S2 h2 => ⟨h2.1, hq _ _ h2.2⟩) hE (h1 p hp)⟩) hE h
  | .meth a m es, _, _, _, _, _, _, hq, hE, h => wpE_mono a (fun x S1 ⟨p, c, fs, f, h1, h2, h3, h4⟩ => ⟨p, c, fs, f, h1, h2, h3, wpEs_mono es (fun ds S2 h5 => mR _ _ _ _ _ _ _ hq hE h5) hE h4⟩) hE h
  | .blt b es, _, _, _, _, _, _, hq, hE, h => wpEs_mono es (fun ds S1 h1 => wpBlt_mono hq h1) hE h
  | .bmt a m es, _, _, _, _, _, _, hq, hE, h => wpE_mono a (fun x S1 ⟨k, e, z, h1⟩ => ⟨k, e, z, wpEs_mono es (fun ds S2 h2 => wpBmt_mono hq h2) hE h1⟩) hE h
  | .isi a ts, _, _, _, _, _, _, hq, hE, h => wpE_mono a (fun x S1 ⟨k, b, h0, h1, h2⟩ => ⟨k, b, h0, h1, hq _ _ h2⟩) hE h
  | .comp e tg it c own, _, _, _, _, _, _, hq, hE, h => wpI_mono it (fun items guard S1 h1 p hp => by
      refine hold (compLoop_mono ?_ ?_ ?_ _ _ (h1 p hp).out)
      · exact fun S => hq _ S
      · exact fun env S Q Q' hq' h' => wpE_mono c hq' (fun _ _ z => z) h'
      · exact fun env S Q Q' hq' h' => wpE_mono e hq' (fun _ _ z => z) h') hE h
theorem wpEs_mono : ∀ (es : Exs) {env : Env} {S : Store} {Q Q' : List D → Store → Prop} {E E' : PX}, (∀ d S, Q d S → Q' d S) → (∀ c S, E c S → E' c S) → wpEs P R RM es env S Q E → wpEs P R RM es env S Q' E'
  | .nil, _, _, _, _, _, _, hq, hE, h => hq _ _ h
  | .cons e es, _, _, _, _, _, _, hq, hE, h => wpE_mono e (fun d S1 h1 => wpEs_mono es (fun ds S2 h2 => hq _ _ h2) hE h1) hE h
theorem wpO_mono : ∀ (o : Ox) {env : Env} {S : Store} {Q Q' : Option Int → Store → Prop} {E E' : PX}, (∀ d S, Q d S → Q' d S) → (∀ c S, E c S → E' c S) → wpO P R RM o env S Q E → wpO P R RM o env S Q' E'
  | .no, _, _, _, _, _, _, hq, hE, h => hq _ _ h
  | .some e, _, _, _, _, _, _, hq, hE, h => wpE_mono e (fun d S1 ⟨i, a, b⟩ => ⟨i, a, hq _ _ b⟩) hE h
theorem wpI_mono : ∀ (o : Itx) {env : Env} {S : Store} {Q Q' : List D → (Store → Prop) → Store → Prop} {E E' : PX}, (∀ d g S, Q d g S → Q' d g S) → (∀ c S, E c S → E' c S) → wpI P R RM o env S Q E → wpI P R RM o env S Q' E'
  | .seq e, _, _, _, _, _, _, hq, hE, h => wpE_mono e (fun x S1 h1 => wpSeq_mono (fun xs g h2 => hq _ _ _ h2) h1) hE h
  | .rng1 a, _, _, _, _, _, _, hq, hE, h => wpE_mono a (fun x S1 ⟨j, a, b, c⟩ => ⟨j, a, b, hq _ _ _ c⟩) hE h
  | .rng2 a b, _, _, _, _, _, _, hq, hE, h => wpE_mono a (fun x S1 h1 => wpE_mono b (fun y S2 ⟨i, j, a, b, c, d, e⟩ => ⟨i, j, a, b, c, d, hq _ _ _ e⟩) hE h1) hE h
  | .enu e, _, _, _, _, _, _, hq, hE, h => wpE_mono e (fun x S1 h1 => by
      rcases h1 with ⟨j, a, b⟩ | ⟨i, j, a, b, d⟩
      · exact .inl ⟨j, a, hq _ _ _ b⟩
      · exact .inr ⟨i, j, a, b, hq _ _ _ d⟩) hE h
  | .zip a b, _, _, _, _, _, _, hq, hE, h => wpE_mono a (fun x S1 h1 => wpE_mono b (fun y S2 h2 => by
      rcases h2 with ⟨xs, ys, e1, e2, z⟩ | ⟨p, q, xs, ys, e1, e2, e3, e4, z⟩
      · exact .inl ⟨xs, ys, e1, e2, hq _ _ _ z⟩
      · exact .inr ⟨p, q, xs, ys, e1, e2, e3, e4, hq _ _ _ z⟩) hE h1) hE h
  | .rev _, _, _, _, _, _, _, hq, hE, h => h
end
end
structure Kt.le (K K' : Kt) : Prop where
  nx : ∀ env S, K.nx env S → K'.nx env S
  rt : ∀ d S, K.rt d S → K'.rt d S
  bk : ∀ env S, K.bk env S → K'.bk env S
  ct : ∀ env S, K.ct env S → K'.ct env S
  ex : ∀ env c S, K.ex env c S → K'.ex env c S
theorem forLoop_mono {guard : Store → Prop} {G : D → Env → Option Env} {B : Env → Store → Kt → Prop} {K K' : Kt} (hk : Kt.le K K')
    (hB : ∀ env S K K', Kt.le K K' → B env S K → B env S K') : ∀ items env S, forLoop guard G B K items env S → forLoop guard G B K' items env S
  | [], env, S, h => ⟨h.1, hk.nx _ _ h.2⟩
  | d :: ds, env, S, ⟨g, env2, e, h⟩ => ⟨g, env2, e, by
      refine hB _ _ _ _ ?_ h
      exact ⟨fun e s h => forLoop_mono hk hB ds e s h, hk.rt, hk.nx, fun e s h => forLoop_mono hk hB ds e s h, hk.ex⟩⟩
theorem whileN_mono {T : Env → Store → PQ → Prop} {T' : Env → Store → PQ → Prop} {B : Env → Store → Kt → Prop} {K K' : Kt} (hk : Kt.le K K') (hT : ∀ env S Q Q', (∀ d S, Q d S → Q' d S) → T env S Q → T' env S Q')
    (hB : ∀ env S K K', Kt.le K K' → B env S K → B env S K') : ∀ n env S, whileN T B K n env S → whileN T' B K' n env S
  | 0, env, S, h => h
  | n + 1, env, S, h => hT _ _ _ _ (fun b S1 ⟨c, e, h1⟩ => ⟨c, e, by
      cases c with
      | true =>
        rw [if_pos rfl] at h1 ⊢
        refine hB _ _ _ _ ?_ h1
        exact ⟨fun e s h => whileN_mono hk hT hB n e s h, hk.rt, hk.nx, fun e s h => whileN_mono hk hT hB n e s h, hk.ex⟩
      | false => exact hk.nx _ _ h1⟩) h
theorem wpBinI_mono {o : Bop} {x y : D} {Q Q' : D → Prop} (hq : ∀ d, Q d → Q' d) (h : wpBinI o x y Q) : wpBinI o x y Q' := by
  unfold wpBinI at h ⊢
  split at h
  · exact hq _ h
  · exact hq _ h
  · exact ⟨h.1, hq _ h.2⟩
  · exact h.elim
theorem wpQx_mono {P : Prg} {c' : Nat} : ∀ (q : Qx) {env : Env} {Q Q' : D → Prop}, (∀ d, Q d → Q' d) → wpQx P c' q env Q → wpQx P c' q env Q'
  | .cst _, _, _, _, hq, h => hq _ h
  | .var _, _, _, _, hq, ⟨d, e, h⟩ => ⟨d, e, hq _ h⟩
  | .isx _, _, _, _, hq, ⟨b, e, h⟩ => ⟨b, e, hq _ h⟩
  | .an a b, _, _, _, hq, h => wpQx_mono a (fun x ⟨c, e, z⟩ => ⟨c, e, by
      cases c with
      | true => exact wpQx_mono b hq z
      | false => exact hq _ z⟩) h
  | .or a b, _, _, _, hq, h => wpQx_mono a (fun x ⟨c, e, z⟩ => ⟨c, e, by
      cases c with
      | true => exact hq _ z
      | false => exact wpQx_mono b hq z⟩) h
  | .no a, _, _, _, hq, h => wpQx_mono a (fun x ⟨c, e, z⟩ => ⟨c, e, hq _ z⟩) h
  | .int a, _, _, _, hq, h => wpQx_mono a (fun x ⟨c, e, z⟩ => ⟨c, e, hq _ z⟩) h
  | .bin o a b, _, _, _, hq, h => wpQx_mono a (fun x z => wpQx_mono b (fun y z => wpBinI_mono hq z) z) h
theorem wpQxs_mono {P : Prg} {c' : Nat} : ∀ (q : List Qx) {env : Env} {Q Q' : List D → Prop}, (∀ d, Q d → Q' d) → wpQxs P c' q env Q → wpQxs P c' q env Q'
  | [], _, _, _, hq, h => hq _ h
  | e :: es, _, _, _, hq, h => wpQx_mono e (fun d z => wpQxs_mono es (fun ds z => hq _ z) z) h
theorem wpQm_mono {P : Prg} {c' : Nat} : ∀ (q : Qm) {env : Env} {S : Store} {K K' : Env → Store → Prop}, (∀ e s, K e s → K' e s) → wpQm P c' q env S K → wpQm P c' q env S K'
  | .asg _ e, _, _, _, _, hk, h => wpQx_mono e (fun d z => hk _ _ z) h
  | .lst _ es, _, _, _, _, hk, h => wpQxs_mono es (fun ds z => ⟨z.1, fun p hp => hk _ _ (z.2 p hp)⟩) h
  | .app _ e, _, _, _, _, hk, ⟨p, e1, x0, e0, h⟩ => ⟨p, e1, x0, e0, wpQx_mono e (fun d ⟨xs, e2, l, z⟩ => ⟨xs, e2, l, hk _ _ z⟩) h⟩
theorem wpQ_mono {P : Prg} {c' : Nat} : ∀ {q : List Qm} {env : Env} {S : Store} {K K' : Env → Store → Prop}, (∀ e s, K e s → K' e s) → wpQ P c' q env S K → wpQ P c' q env S K'
  | [], _, _, _, _, hk, h => hk _ _ h
  | m :: ms, _, _, _, _, hk, h => wpQm_mono m (fun _ _ z => wpQ_mono hk z) h
section
variable {P : Prg} {R RM : Rec} (mR : MonoR R) (mM : MonoR RM)
include mR mM
mutual
theorem wpS_mono : ∀ (s : Sm) {env : Env} {S : Store} {K K' : Kt}, Kt.le K K' → wpS P R RM s env S K → wpS P R RM s env S K'
  | .asg t e, _, _, _, _, hk, h => wpE_mono mR mM e (fun d S1 ⟨env2, a, b⟩ => ⟨env2, a, hk.nx _ _ b⟩) (hk.ex _) h
  | .asF a f e, _, _, _, _, hk, h => wpE_mono mR mM e (fun d S1 h1 => wpE_mono mR mM a (fun x S2 ⟨p, c, fs, h2, h3, h4, h5⟩ => ⟨p, c, fs, h2, h3, h4, hk.nx _ _ h5⟩) (hk.ex _) h1) (hk.ex _) h
  | .asS a i e, _, _, _, _, hk, h => wpE_mono mR mM e (fun d S1 h1 => wpE_mono mR mM a (fun x S2 h2 => wpE_mono mR mM i (fun y S3 h3 => by
      rcases h3 with ⟨p, xs, k, j, h1, h2, h3, h4, h5⟩ | ⟨p, xs, h1, h2, h3, h4, h5⟩
      · exact .inl ⟨p, xs, k, j, h1, h2, h3, h4, hk.nx _ _ h5⟩
      · exact .inr ⟨p, xs, h1, h2, h3, h4, hk.nx _ _ h5⟩) (hk.ex _) h2) (hk.ex _) h1) (hk.ex _) h
  | .aug i o e, _, _, _, _, hk, ⟨x, a, h⟩ => ⟨x, a, wpE_mono mR mM e (fun y S1 h1 => wpAug_mono (fun z h2 => hk.nx _ _ h2) h1) (hk.ex _) h⟩
  | .auF a f o e, _, _, _, _, hk, h => wpE_mono mR mM a (fun x S1 ⟨p, c, fs, v, h1, h2, h3, h4⟩ => ⟨p, c, fs, v, h1, h2, h3, wpE_mono mR mM e (fun y S2 h5 => wpAug_mono (fun z ⟨fs', h8, h9, h10⟩ =>
      ⟨fs', h8, h9, hk.nx _ _ h10⟩) h5) (hk.ex _) h4⟩) (hk.ex _) h
  | .auS a i o e, _, _, _, _, hk, h => wpE_mono mR mM a (fun x S1 h1 => wpE_mono mR mM i (fun y S2 h2 => wpGx_mono (fun v h3 => wpE_mono mR mM e (fun w S3 h4 => wpAug_mono (fun z h5 => by
      rcases h5 with ⟨p, xs, k, j, h1, h2, h3, h4, h5⟩ | ⟨p, xs, h1, h2, h3, h4, h5⟩
      · exact .inl ⟨p, xs, k, j, h1, h2, h3, h4, hk.nx _ _ h5⟩
      · exact .inr ⟨p, xs, h1, h2, h3, h4, hk.nx _ _ h5⟩) h4) (hk.ex _) h3) h2) (hk.ex _) h1) (hk.ex _) h
  | .ex e, _, _, _, _, hk, h => wpE_mono mR mM e (fun _ S1 h1 => hk.nx _ _ h1) (hk.ex _) h
  | .ret e, _, _, _, _, hk, h => wpE_mono mR mM e hk.rt (hk.ex _) h
  | .retN, _, _, _, _, hk, h => hk.rt _ _ h
  | .ite t a b, _, _, _, _, hk, h => wpE_mono mR mM t (fun x S1 ⟨c, e, h1⟩ => ⟨c, e, by
      cases c with
      | true => exact wpSs_mono a hk h1
      | false => exact wpSs_mono b hk h1⟩) (hk.ex _) h
  | .for_ t it b, _, _, K, K', hk, h => by
      unfold wpS at h ⊢
      refine wpI_mono mR mM it (fun items guard S1 h1 => ?_) (hk.ex _) h
      refine hold (forLoop_mono hk ?_ items _ _ h1.out)
      exact fun env S K K' hk' h' => wpSs_mono b hk' h'
  | .forD t items e b, _, _, _, _, hk, ⟨a, kvs, h0, h⟩ => ⟨a, kvs, h0, wpE_mono mR mM e (fun x S1 ⟨e1, h1⟩ => ⟨e1, by
      refine hold (forLoop_mono ?_ ?_ _ _ _ h1.out)
      · exact ⟨fun env S z => ⟨z.1, hk.nx _ _ z.2⟩, fun d S z => ⟨z.1, hk.rt _ _ z.2⟩, fun _ _ z => z, fun _ _ z => z, fun _ _ _ z => z⟩
      · exact fun env S K K' hk' h' => wpSs_mono b hk' h'⟩) (fun _ _ z => z) h⟩
  | .while_ t b, _, _, K, K', hk, ⟨_, n, h⟩ => hold ⟨n, by
      refine whileN_mono hk ?_ ?_ n _ _ h
      · exact fun env S Q Q' hq h' => wpE_mono mR mM t hq (hk.ex _) h'
      · exact fun env S K K' hk' h' => wpSs_mono b hk' h'⟩
  | .try_ b c en q, _, _, K, K', hk, h => by
      unfold wpS at h ⊢
      refine wpSs_mono (K := { K with ex := fun env' c' S' => ∃ b, P.sub c' c = some b ∧ if b = true then (∀ a, wpQ P c' q (setO env' en (some (.ref a))) S' fun e2 S2 => K.nx (setO e2 en none) S2) else K.ex env' c' S' }) b ⟨hk.nx, hk.rt, hk.bk, hk.ct, fun env' c' S' z => ?_⟩ h
      obtain ⟨b, e, z⟩ := z
      refine ⟨b, e, ?_⟩
      cases b with
      | true => exact fun a => wpQ_mono (fun _ _ y => hk.nx _ _ y) (z a)
      | false => exact hk.ex _ _ _ z
  | .pass, _, _, _, _, hk, h => hk.nx _ _ h
  | .cont, _, _, _, _, hk, h => hk.ct _ _ h
  | .brk, _, _, _, _, hk, h => hk.bk _ _ h
  | .raise c, _, _, _, _, hk, h => hk.ex _ _ _ h
theorem wpSs_mono : ∀ (s : Sms) {env : Env} {S : Store} {K K' : Kt}, Kt.le K K' → wpSs P R RM s env S K → wpSs P R RM s env S K'
  | .nil, _, _, _, _, hk, h => hk.nx _ _ h
  | .cons s ss, _, _, K, K', hk, h => by
      unfold wpSs at h ⊢
      refine wpS_mono s ?_ h
      exact ⟨fun env S h1 => wpSs_mono ss hk h1, hk.rt, hk.bk, hk.ct, hk.ex⟩
end
end
end SW
/-! SW, part C: how data and store lie in the layer's heap; the operators' rules. -/
namespace SW
open PySem PySem.Spec PyProof.Rows L2

/-! ### how data lie -/
/-- a list that nobody may change: the script -/
def RoL (K : PySem.W.Frag) (H : Hp) (p : Addr) (vs : List V) : Prop := (∃ o, H p = some (.frz o (.lst vs))) ∨
  ∃ (o : Obj) (its : Array Value) (n : Nat), K.lookup p = some o ∧ o.cls = .type "list" ∧ o.dict = none ∧ o.data = .seq its n ∧ its.size ≤ sizeLine ∧ Vals vs its.toList
theorem RoL.sq {K : PySem.W.Frag} {H : Hp} {p : Addr} {vs : List V} (h : RoL K H p vs) : SqL K H p vs := by
  rcases h with ⟨o, h⟩ | h
  · exact .inl (.inr ⟨o, h⟩)
  · exact .inr h
mutual
inductive RV (K : PySem.W.Frag) (H : Hp) : V → D → Prop
  | non : RV K H .non .non
  | bl (b : Bool) : RV K H (.bl b) (.bl b)
  | int (i : Int) : RV K H (.int i) (.int i)
  | str (s : Str) : RV K H (.str s) (.str s)
  | ref (a : Addr) : RV K H (.ref a) (.ref a)
  | tup {p : Addr} {vs : List V} {ds : List D} : SqT K H p vs → RVs K H vs ds → RV K H (.ref p) (.tup ds)
  | rl {p : Addr} {vs : List V} {ds : List D} : RoL K H p vs → RVs K H vs ds → RV K H (.ref p) (.rl ds)
inductive RVs (K : PySem.W.Frag) (H : Hp) : List V → List D → Prop
  | nil : RVs K H [] []
  | cons {v : V} {d : D} {vs : List V} {ds : List D} : RV K H v d → RVs K H vs ds → RVs K H (v :: vs) (d :: ds)
end
def Ext (K : PySem.W.Frag) (H H' : Hp) : Prop := ∀ b xs, (SqT K H b xs → SqT K H' b xs) ∧ (RoL K H b xs → RoL K H' b xs) ∧ ∀ o u, H b = some (.frz o u) → H' b = some (.frz o u)
/-- .. that may let locks go -/
def Ext0 (K : PySem.W.Frag) (H H' : Hp) : Prop := ∀ b xs, (SqT K H b xs → SqT K H' b xs) ∧ (RoL K H b xs → RoL K H' b xs)
theorem Ext.refl {K : PySem.W.Frag} {H : Hp} : Ext K H H := fun _ _ => ⟨fun h => h, fun h => h, fun _ _ h => h⟩
theorem Ext.trans {K : PySem.W.Frag} {H H1 H2 : Hp} (a : Ext K H H1) (b : Ext K H1 H2) : Ext K H H2 := fun c d => ⟨fun h => (b _ _).1 ((a _ _).1 h), fun h => (b c d).2.1 ((a c d).2.1 h), fun o u h => (b c d).2.2 o u ((a c d).2.2 o u h)⟩
section
variable {K : PySem.W.Frag} {H H' : Hp}
mutual
theorem RV.ext (x : Ext K H H') : ∀ {d : D} {v : V}, RV K H v d → RV K H' v d
  | _, _, .non => .non
  | _, _, .bl b => .bl b
  | _, _, .int i => .int i
  | _, _, .str s => .str s
  | _, _, .ref a => .ref a
  | _, _, .tup h r => .tup ((x _ _).1 h) (RVs.ext x r)
  | _, _, .rl h r => .rl ((x _ _).2.1 h) (RVs.ext x r)
theorem RVs.ext (x : Ext K H H') : ∀ {ds : List D} {vs : List V}, RVs K H vs ds → RVs K H' vs ds
  | _, _, .nil => .nil
  | _, _, .cons h r => .cons (RV.ext x h) (RVs.ext x r)
end
mutual
theorem RV.ext0 (x : Ext0 K H H') : ∀ {d : D} {v : V}, RV K H v d → RV K H' v d
  | _, _, .non => .non
  | _, _, .bl b => .bl b
  | _, _, .int i => .int i
  | _, _, .str s => .str s
  | _, _, .ref a => .ref a
  | _, _, .tup h r => .tup ((x _ _).1 h) (RVs.ext0 x r)
  | _, _, .rl h r => .rl ((x _ _).2 h) (RVs.ext0 x r)
theorem RVs.ext0 (x : Ext0 K H H') : ∀ {ds : List D} {vs : List V}, RVs K H vs ds → RVs K H' vs ds
  | _, _, .nil => .nil
  | _, _, .cons h r => .cons (RV.ext0 x h) (RVs.ext0 x r)
end
theorem RVs.length : ∀ {vs : List V} {ds : List D}, RVs K H vs ds → vs.length = ds.length
  | _, _, .nil => rfl
  | _, _, .cons _ r => congrArg (· + 1) r.length
theorem RVs.append : ∀ {vs ws : List V} {ds es : List D}, RVs K H vs ds → RVs K H ws es → RVs K H (vs ++ ws) (ds ++ es)
  | _, _, _, _, .nil, q => q
  | _, _, _, _, .cons h r, q => .cons h (r.append q)
theorem RVs.rep {vs : List V} {ds : List D} (r : RVs K H vs ds) : ∀ n, RVs K H (List.replicate n vs).flatten (List.replicate n ds).flatten
  | 0 => .nil
  | n + 1 => by
    rw [List.replicate_succ, List.replicate_succ, List.flatten_cons, List.flatten_cons]
    exact r.append (RVs.rep r n)
theorem RVs.get : ∀ {vs : List V} {ds : List D} {i : Nat} {d : D}, RVs K H vs ds → ds[i]? = some d → ∃ v, vs[i]? = some v ∧ RV K H v d
  | _, _, _, _, .nil, h => by simp at h
  | _, _, 0, _, .cons h r, e => by simp at e; subst e; exact ⟨_, rfl, h⟩
  | _, _, i + 1, _, .cons h r, e => by
    obtain ⟨v, a, b⟩ := r.get (i := i) (by simpa using e)
    exact ⟨v, by simpa using a, b⟩
theorem RVs.get' : ∀ {vs : List V} {ds : List D} {i : Nat} {v : V}, RVs K H vs ds → vs[i]? = some v → ∃ d, ds[i]? = some d ∧ RV K H v d
  | _, _, _, _, .nil, h => by simp at h
  | _, _, 0, _, .cons h r, e => by simp at e; subst e; exact ⟨_, rfl, h⟩
  | _, _, i + 1, _, .cons h r, e => by
    obtain ⟨v, a, b⟩ := r.get' (i := i) (by simpa using e)
    exact ⟨v, by simpa using a, b⟩
theorem RVs.take : ∀ {vs : List V} {ds : List D} (n : Nat), RVs K H vs ds → RVs K H (vs.take n) (ds.take n)
  | _, _, 0, _ => .nil
  | _, _, _ + 1, .nil => .nil
  | _, _, n + 1, .cons h r => .cons h (r.take n)
theorem RVs.drop : ∀ {vs : List V} {ds : List D} (n : Nat), RVs K H vs ds → RVs K H (vs.drop n) (ds.drop n)
  | _, _, 0, r => r
  | _, _, _ + 1, .nil => .nil
  | _, _, n + 1, .cons h r => r.drop n
theorem RVs.set {v : V} {d : D} (q : RV K H v d) : ∀ {vs : List V} {ds : List D} (n : Nat), RVs K H vs ds → RVs K H (vs.set n v) (ds.set n d)
  | _, _, _, .nil => .nil
  | _, _, 0, .cons h r => .cons q r
  | _, _, n + 1, .cons h r => .cons h (r.set q n)
theorem RVs.atI {vs : List V} {ds : List D} {i : Int} {d : D} (r : RVs K H vs ds) (h : L2.atI ds i = some d) : ∃ v, L2.atI vs i = some v ∧ RV K H v d := by
  unfold L2.atI at h ⊢
  rw [r.length]
  cases e : ixN ds.length i with
  | none => rw [e] at h; cases h
  | some j =>
    rw [e] at h
    exact r.get h
theorem RVs.cut {vs : List V} {ds : List D} (r : RVs K H vs ds) (lo hi : Option Int) : RVs K H (cutV vs lo hi) (cutL ds lo hi) := by
  unfold cutV cutL
  rw [r.length]
  exact (r.drop _).take _
end

/-- the constants of the meaning: the written part, the names of ids, the classes' places -/
structure Cn where
  K : PySem.W.Frag
  nm : Nat → Str
  ca : Nat → Addr
  isC : Nat → Prop
  isF : Nat → Prop
inductive RFs (C : Cn) (H : Hp) : List (Str × V) → List (Nat × D) → Prop
  | nil : RFs C H [] []
  | cons {f : Nat} {v : V} {d : D} {r : List (Str × V)} {r' : List (Nat × D)} : C.isF f → RV C.K H v d → RFs C H r r' → RFs C H ((C.nm f, v) :: r) ((f, d) :: r')
def kD : Key → D
  | .inl i => .int i
  | .inr s => .str s
inductive RKs (C : Cn) (H : Hp) : List (Key × V) → List (D × D) → Prop
  | nil : RKs C H [] []
  | cons {k : Key} {v : V} {d : D} {r : List (Key × V)} {r' : List (D × D)} : RV C.K H v d → RKs C H r r' → RKs C H ((k, v) :: r) ((kD k, d) :: r')
def CellR (C : Cn) (H : Hp) (a : Addr) : Cell → Prop
  | .lst ds => ∃ vs, H a = some (.lst vs) ∧ RVs C.K H vs ds
  | .dic kvs => ∃ kvs', H a = some (.dK kvs') ∧ RKs C H kvs' kvs
  | .ins c fs => ∃ dx fs', H a = some (.ins (C.ca c) dx fs') ∧ RFs C H fs' fs ∧ C.isC c
  | .fz (.dic kvs) => ∃ o kvs', H a = some (.frz o (.dK kvs')) ∧ RKs C H kvs' kvs
  | .fz _ => False
def SOk (C : Cn) (H : Hp) (S : Store) : Prop := ∀ a c, S a = some c → CellR C H a c
theorem RFs.ext {C : Cn} {H H' : Hp} (x : Ext C.K H H') : ∀ {l : List (Str × V)} {m : List (Nat × D)}, RFs C H l m → RFs C H' l m
  | _, _, .nil => .nil
  | _, _, .cons f h r => .cons f (h.ext x) (r.ext x)
theorem RKs.ext {C : Cn} {H H' : Hp} (x : Ext C.K H H') : ∀ {l : List (Key × V)} {m : List (D × D)}, RKs C H l m → RKs C H' l m
  | _, _, .nil => .nil
  | _, _, .cons h r => .cons (h.ext x) (r.ext x)
theorem CellR.ext {C : Cn} {H H' : Hp} {a : Addr} (x : Ext C.K H H') (h : H' a = H a) : ∀ {c : Cell}, CellR C H a c → CellR C H' a c
  | .lst ds, ⟨vs, e, r⟩ => ⟨vs, h.trans e, r.ext x⟩
  | .dic kvs, ⟨vs, e, r⟩ => ⟨vs, h.trans e, r.ext x⟩
  | .ins c fs, ⟨dx, fs', e, r, z⟩ => ⟨dx, fs', h.trans e, r.ext x, z⟩
  | .fz (.dic kvs), ⟨o, vs, e, r⟩ => ⟨o, vs, h.trans e, r.ext x⟩
theorem RFs.ext0 {C : Cn} {H H' : Hp} (x : Ext0 C.K H H') : ∀ {l : List (Str × V)} {m : List (Nat × D)}, RFs C H l m → RFs C H' l m
  | _, _, .nil => .nil
  | _, _, .cons f h r => .cons f (h.ext0 x) (r.ext0 x)
theorem RKs.ext0 {C : Cn} {H H' : Hp} (x : Ext0 C.K H H') : ∀ {l : List (Key × V)} {m : List (D × D)}, RKs C H l m → RKs C H' l m
  | _, _, .nil => .nil
  | _, _, .cons h r => .cons (h.ext0 x) (r.ext0 x)
theorem CellR.ext0 {C : Cn} {H H' : Hp} {a : Addr} (x : Ext0 C.K H H') (h : H' a = H a) : ∀ {c : Cell}, CellR C H a c → CellR C H' a c
  | .lst ds, ⟨vs, e, r⟩ => ⟨vs, h.trans e, r.ext0 x⟩
  | .dic kvs, ⟨vs, e, r⟩ => ⟨vs, h.trans e, r.ext0 x⟩
  | .ins c fs, ⟨dx, fs', e, r, z⟩ => ⟨dx, fs', h.trans e, r.ext0 x, z⟩
  | .fz (.dic kvs), ⟨o, vs, e, r⟩ => ⟨o, vs, h.trans e, r.ext0 x⟩
/-- new objects, changed objects -/
theorem Ext.upd {K : PySem.W.Frag} {H : Hp} {p : Addr} {o : HO} (h : ∀ xs, ¬ Rd H p (.tup xs)) (h2 : ∀ o u, H p ≠ some (.frz o u)) : Ext K H (L2.upd H p o) := fun b xs => ⟨fun q => by
  rcases q with q | q
  · have ne : b ≠ p := fun e => h xs (e ▸ q)
    refine .inl ?_
    rcases q with q | ⟨o', q⟩
    · exact .inl ((upd_ne ne).trans q)
    · exact .inr ⟨o', (upd_ne ne).trans q⟩
  · exact .inr q, fun q => by
  rcases q with ⟨o', q⟩ | q
  · have ne : b ≠ p := fun e => h2 o' _ (e ▸ q)
    exact .inl ⟨o', (upd_ne ne).trans q⟩
  · exact .inr q, fun o' u q => by
  have ne : b ≠ p := fun e => h2 o' u (e ▸ q)
  exact (upd_ne ne).trans q⟩
theorem Ext.new {K : PySem.W.Frag} {H : Hp} {p : Addr} {o : HO} (h : H p = none) : Ext K H (L2.upd H p o) := Ext.upd (fun xs q => by
  rcases q with q | ⟨o, q⟩ <;> rw [h] at q <;> cases q) fun o xs q => by rw [h] at q; cases q
def Chg : HO → Prop
  | .lst _ => True
  | .dK _ => True
  | .ins _ _ _ => True
  | _ => False
theorem Ext.at {K : PySem.W.Frag} {H : Hp} {p : Addr} {o u : HO} (h : H p = some u) (n : Chg u) : Ext K H (L2.upd H p o) := Ext.upd (fun xs q => by
  rcases q with q | ⟨o, q⟩ <;> rw [h] at q <;> cases q <;> exact n) fun o xs q => by rw [h] at q; cases q; exact n
theorem CellR.some {C : Cn} {H : Hp} {a : Addr} : ∀ {c : Cell}, CellR C H a c → H a ≠ none
  | .lst ds, ⟨vs, e, r⟩ => by rw [e]; simp
  | .dic kvs, ⟨vs, e, r⟩ => by rw [e]; simp
  | .ins c fs, ⟨dx, fs', e, r⟩ => by rw [e]; simp
  | .fz (.dic kvs), ⟨o, vs, e, r⟩ => by rw [e]; simp
def nofz : Cell → Bool
  | .fz _ => false
  | _ => true
theorem CellR.ups0 {C : Cn} {H : Hp} {a : Addr} : ∀ {c : Cell}, nofz c = true → CellR C H a c → ∃ u, H a = Option.some u ∧ Chg u
  | .lst ds, _, ⟨vs, e, r⟩ => ⟨_, e, trivial⟩
  | .dic kvs, _, ⟨vs, e, r⟩ => ⟨_, e, trivial⟩
  | .ins c fs, _, ⟨dx, fs', e, r⟩ => ⟨_, e, trivial⟩
  | .fz _, h, _ => Bool.noConfusion h
theorem CellR.ups {C : Cn} {H : Hp} {a : Addr} {c : Cell} (h : CellR C H a c) (hf : nofz c = true := by rfl) : ∃ u, H a = Option.some u ∧ Chg u := h.ups0 hf
section
variable {C : Cn} {H H' : Hp} {S : Store}
theorem SOk.none_of (ok : SOk C H S) {p : Addr} (h : H p = none) : S p = none := by
  cases e : S p with
  | none => rfl
  | some c => exact ((ok p c e).some h).elim
/-- a new cell -/
theorem SOk.new (ok : SOk C H S) {p : Addr} {o : HO} {c : Cell} (h : H p = none) (n : CellR C (L2.upd H p o) p c) : SOk C (L2.upd H p o) (S.upd p c) := fun a c' e => by
  by_cases ea : a = p
  · subst ea
    rw [Store.upd_same] at e
    cases e
    exact n
  · rw [Store.upd_ne ea] at e
    exact (ok a c' e).ext (Ext.new h) (upd_ne ea)
/-- a new thing that is no cell -/
theorem SOk.new0 (ok : SOk C H S) {p : Addr} {o : HO} (h : H p = none) : SOk C (L2.upd H p o) S := fun a c' e => by
  have ea : a ≠ p := fun z => by
    subst z
    rw [ok.none_of h] at e
    cases e
  exact (ok a c' e).ext (Ext.new h) (upd_ne ea)
/-- a cell is changed -/
theorem SOk.put (ok : SOk C H S) {p : Addr} {o : HO} {c c0 : Cell} (h : S p = some c0) (n : CellR C (L2.upd H p o) p c) (hf : nofz c0 = true := by rfl) : Ext C.K H (L2.upd H p o) ∧ SOk C (L2.upd H p o) (S.upd p c) := by
  obtain ⟨u, hu, hn⟩ := (ok p c0 h).ups hf
  have x : Ext C.K H (L2.upd H p o) := Ext.at hu hn
  refine ⟨x, fun a c' e => ?_⟩
  by_cases ea : a = p
  · subst ea
    rw [Store.upd_same] at e
    cases e
    exact n
  · rw [Store.upd_ne ea] at e
    exact (ok a c' e).ext x (upd_ne ea)
theorem SOk.lst (ok : SOk C H S) {p : Addr} {ds : List D} (h : S p = some (.lst ds)) : ∃ vs, H p = some (.lst vs) ∧ RVs C.K H vs ds := ok p _ h
theorem SOk.dic (ok : SOk C H S) {p : Addr} {kvs : List (D × D)} (h : S p = some (.dic kvs)) : ∃ vs, H p = some (.dK vs) ∧ RKs C H vs kvs := ok p _ h
theorem SOk.ins (ok : SOk C H S) {p : Addr} {c : Nat} {fs : List (Nat × D)} (h : S p = some (.ins c fs)) : ∃ dx fs', H p = some (.ins (C.ca c) dx fs') ∧ RFs C H fs' fs ∧ C.isC c := ok p _ h
end
/-- what is wanted of a value, of a place in the layer's heap -/
def QV (C : Cn) (H : Hp) (Q : VK) : PQ := fun d S' => ∀ v H', Ext C.K H H' → SOk C H' S' → RV C.K H' v d → Q v H'
theorem QV.at {C : Cn} {H : Hp} {S : Store} {Q : VK} {d : D} {v : V} (h : QV C H Q d S) (ok : SOk C H S) (r : RV C.K H v d) : Q v H := h v H Ext.refl ok r
theorem QV.new {C : Cn} {H : Hp} {S : Store} {Q : VK} {ds : List D} {vs : List V} {p : Addr} (h : ∀ p, S p = none → QV C H Q (.ref p) (S.upd p (.lst ds))) (ok : SOk C H S) (r : RVs C.K H vs ds) (hp : H p = none) : Q (.ref p) (L2.upd H p (.lst vs)) := by
  have x : Ext C.K H (L2.upd H p (.lst vs)) := Ext.new hp
  exact h p (ok.none_of hp) _ _ x (ok.new hp ⟨vs, upd_same, r.ext x⟩) (.ref p)
theorem QV.tup {C : Cn} {H : Hp} {S : Store} {Q : VK} {ds : List D} {vs : List V} {p : Addr} (h : QV C H Q (.tup ds) S) (ok : SOk C H S) (r : RVs C.K H vs ds) (hp : H p = none) : Q (.ref p) (L2.upd H p (.tup vs)) := by
  have x : Ext C.K H (L2.upd H p (.tup vs)) := Ext.new hp
  exact h _ _ x (ok.new0 hp) (.tup (.of upd_same) (r.ext x))
/-- a rule of two values -/
def R2D (C : Cn) (w : D → D → Store → PQ → Prop) : R2 := fun x y H Q => ∃ dx dy S, RV C.K H x dx ∧ RV C.K H y dy ∧ SOk C H S ∧ w dx dy S (QV C H Q)
section
variable {X : Cx} {C : Cn} (hK : X.K = C.K) (hu : X.A.units + 64 < cLine)
include hK
theorem opr_add : OpR X (binaryOp .Add) (R2D C (wpBin .add)) := by
  intro pins s σ H x y v u Q I rx ry h
  obtain ⟨dx, dy, S, r1, r2, ok, h⟩ := h
  unfold wpBin at h
  split at h <;> (try contradiction)
  · cases r1; cases r2
    exact op_add pins s σ H _ _ v u Q I rx ry ⟨_, _, rfl, rfl, h.at ok (.int _)⟩
  · cases r1; cases r2
    exact op_add_str pins s σ H _ _ v u Q I rx ry ⟨_, _, rfl, rfl, h.1, h.2.at ok (.str _)⟩
  · obtain ⟨hl, h⟩ := h
    rename_i xs ys _ _
    cases r1 with
    | tup t1 q1 =>
      cases r2 with
      | tup t2 q2 =>
        refine op_catA pins s σ H _ _ v u Q I rx ry ⟨_, _, _, _, rfl, rfl, hK ▸ t1, hK ▸ t2, by rw [q1.length, q2.length]; exact hl, fun e => ?_, fun _ e => ?_, fun _ _ p hp => ?_⟩
        · subst e
          cases q1
          exact h.at ok (.tup t2 q2)
        · subst e
          cases q2
          rw [List.append_nil] at h
          exact h.at ok (.tup t1 q1)
        · exact h.tup ok (q1.append q2) hp
  · obtain ⟨xs, ys, h1, h2, hl, h⟩ := h
    obtain ⟨vs, e1, q1⟩ := ok.lst h1
    obtain ⟨ws, e2, q2⟩ := ok.lst h2
    cases r1; cases r2
    exact op_cat pins s σ H _ _ v u Q I rx ry ⟨_, _, _, _, rfl, rfl, e1, e2, by rw [q1.length, q2.length]; exact hl, fun p hp => QV.new h ok (q1.append q2) hp⟩
theorem opr_sub : OpR X (binaryOp .Sub) (R2D C (wpBin .sub)) := by
  intro pins s σ H x y v u Q I rx ry h
  obtain ⟨dx, dy, S, r1, r2, ok, h⟩ := h
  unfold wpBin at h
  split at h <;> (try contradiction)
  cases r1; cases r2
  exact op_sub pins s σ H _ _ v u Q I rx ry ⟨_, _, rfl, rfl, h.at ok (.int _)⟩
theorem opr_mul : OpR X (binaryOp .Mult) (R2D C (wpBin .mul)) := by
  intro pins s σ H x y v u Q I rx ry h
  obtain ⟨dx, dy, S, r1, r2, ok, h⟩ := h
  unfold wpBin at h
  split at h <;> (try contradiction)
  · obtain ⟨xs, h1, h2, h3, h4, h5⟩ := h
    cases r1; cases r2
    obtain ⟨vs, e, r⟩ := ok.lst h1
    exact op_rep pins s σ H _ _ v u Q I rx ry ⟨_, _, vs, rfl, rfl, e, h2, h3, by rw [r.length]; exact h4, fun p hp => QV.new h5 ok (r.rep _) hp⟩
  · cases r1; cases r2
    exact op_mul pins s σ H _ _ v u Q I rx ry ⟨_, _, rfl, rfl, h.1, h.2.at ok (.int _)⟩
theorem opr_fdiv : OpR X (binaryOp .FloorDiv) (R2D C (wpBin .fdiv)) := by
  intro pins s σ H x y v u Q I rx ry h
  obtain ⟨dx, dy, S, r1, r2, ok, h⟩ := h
  unfold wpBin at h
  split at h <;> (try contradiction)
  cases r1; cases r2
  exact op_fdiv pins s σ H _ _ v u Q I rx ry ⟨_, _, rfl, rfl, h.1, h.2.at ok (.int _)⟩
theorem opr_mod : OpR X (binaryOp .Mod) (R2D C (wpBin .mod)) := by
  intro pins s σ H x y v u Q I rx ry h
  obtain ⟨dx, dy, S, r1, r2, ok, h⟩ := h
  unfold wpBin at h
  split at h <;> (try contradiction)
  cases r1; cases r2
  exact op_mod pins s σ H _ _ v u Q I rx ry ⟨_, _, rfl, rfl, h.1, h.2.at ok (.int _)⟩
theorem opr_pow : OpR X (binaryOp .Pow) (R2D C (wpBin .pow)) := by
  intro pins s σ H x y v u Q I rx ry h
  obtain ⟨dx, dy, S, r1, r2, ok, h⟩ := h
  unfold wpBin at h
  split at h <;> (try contradiction)
  cases r1; cases r2
  exact op_pow pins s σ H _ _ v u Q I rx ry ⟨_, _, rfl, rfl, h.1, h.2.at ok (.int _)⟩
end
end SW
/-! SW, part D: comparisons, subscripts, built-in functions and methods. -/
namespace SW
open PySem PySem.Spec PyProof.Rows L2
section
variable {K : PySem.W.Frag} {H : Hp}
theorem RVs.ints : ∀ {ds : List D} {vs : List V} {ns : List Int}, RVs K H vs ds → intsOf ds = some ns → vs = ns.map V.int
  | [], _, ns, r, h => by
    cases r
    cases h
    rfl
  | .int i :: r, _, ns, .cons (.int _) q, h => by
    unfold intsOf at h
    cases e : intsOf r with
    | none => rw [e] at h; cases h
    | some ms =>
      rw [e] at h
      cases h
      rw [q.ints e]
      rfl
theorem RVs.strs : ∀ {ds : List D} {vs : List V} {ns : List Str}, RVs K H vs ds → strsOf ds = some ns → vs = ns.map V.str
  | [], _, ns, r, h => by
    cases r
    cases h
    rfl
  | .str i :: r, _, ns, .cons (.str _) q, h => by
    unfold strsOf at h
    cases e : strsOf r with
    | none => rw [e] at h; cases h
    | some ms =>
      rw [e] at h
      cases h
      rw [q.strs e]
      rfl
theorem RVs.bls : ∀ {ds : List D} {vs : List V} {ns : List Bool}, RVs K H vs ds → blsOf ds = some ns → vs = ns.map V.bl
  | [], _, ns, r, h => by
    cases r
    cases h
    rfl
  | .bl i :: r, _, ns, .cons (.bl _) q, h => by
    unfold blsOf at h
    cases e : blsOf r with
    | none => rw [e] at h; cases h
    | some ms =>
      rw [e] at h
      cases h
      rw [q.bls e]
      rfl
theorem RVs.ofInts : ∀ {ns : List Int}, RVs K H (ns.map V.int) (ns.map D.int)
  | [] => .nil
  | _ :: _ => .cons (.int _) RVs.ofInts
mutual
theorem dp_of {C : Cn} {S : Store} (ok : SOk C H S) : ∀ (n : Nat) (d : D) (v : V) (p : PyData), RV C.K H v d → toPD n S d = some p → Dp C.K H v p
  | 0, _, _, _, _, h => by unfold toPD at h; cases h
  | n + 1, .non, _, _, .non, h => by unfold toPD at h; cases h; exact .non
  | n + 1, .bl b, _, _, .bl _, h => by unfold toPD at h; cases h; exact .bl b
  | n + 1, .int b, _, _, .int _, h => by unfold toPD at h; cases h; exact .int b
  | n + 1, .str b, _, _, .str _, h => by unfold toPD at h; cases h; exact .str b
  | n + 1, .rl b, _, _, _, h => by unfold toPD at h; cases h
  | n + 1, .tup xs, _, p, .tup t r, h => by
    unfold toPD at h
    cases e : toPDs n S xs with
    | none => rw [e] at h; cases h
    | some ps => rw [e] at h; cases h; exact .tup t (dps_of ok n xs _ ps r e)
  | n + 1, .ref a, _, p, .ref _, h => by
    unfold toPD at h
    cases ea : S a with
    | none => rw [ea] at h; cases h
    | some c =>
      rw [ea] at h
      cases c with
      | lst xs =>
        have h : Option.map PyData.list (toPDs n S xs) = some p := h
        obtain ⟨vs, e1, q⟩ := ok.lst ea
        cases e : toPDs n S xs with
        | none => rw [e] at h; cases h
        | some ps => rw [e] at h; cases h; exact .lst (.of e1) (dps_of ok n xs _ ps q e)
      | dic _ => cases h
      | ins _ _ => cases h
      | fz _ => cases h
theorem dps_of {C : Cn} {S : Store} (ok : SOk C H S) : ∀ (n : Nat) (ds : List D) (vs : List V) (ps : List PyData), RVs C.K H vs ds → toPDs n S ds = some ps → DpAll C.K H vs ps
  | _, [], _, _, .nil, h => by unfold toPDs at h; cases h; exact .nil
  | 0, _ :: _, _, _, _, h => by unfold toPDs at h; cases h
  | n + 1, x :: xs, _, ps, .cons r1 r2, h => by
    unfold toPDs at h
    cases e : toPD n S x with
    | none => rw [e] at h; cases h
    | some p =>
      rw [e] at h
      have h : (match toPDs n S xs with | none => none | some ps => some (p :: ps)) = some ps := h
      cases e2 : toPDs n S xs with
      | none => rw [e2] at h; cases h
      | some qs =>
        rw [e2] at h
        cases h
        exact .cons (dp_of ok n x _ p r1 e) (dps_of ok n xs _ qs r2 e2)
end
end
theorem lexAt_gt : ∀ (ns ms : List Int) (k i : Nat), k = min ns.length ms.length - i →
    Ob.lexAt (fun j => decide (ns.getD j 0 = ms.getD j 0)) (fun j => decide (ms.getD j 0 < ns.getD j 0)) (decide (ns.length > ms.length)) i k = HT.lexLt (ms.drop i) (ns.drop i) ∨ min ns.length ms.length < i
  | ns, ms, 0, i, hk => by
    by_cases hi : min ns.length ms.length < i
    · exact .inr hi
    · refine .inl ?_
      rw [Ob.lexAt_zero]
      have e : i = min ns.length ms.length := by omega
      by_cases hl : ns.length > ms.length
      · rw [decide_eq_true hl]
        have e1 : ms.drop i = [] := List.drop_eq_nil_of_le (by omega)
        have e2 : ∃ x r, ns.drop i = x :: r := by
          cases q : ns.drop i with
          | nil => have := congrArg List.length q; rw [List.length_drop] at this; simp at this; omega
          | cons x r => exact ⟨x, r, rfl⟩
        obtain ⟨x, r, e2⟩ := e2
        rw [e1, e2] <;> rfl
      · rw [decide_eq_false hl]
        have e1 : ns.drop i = [] := List.drop_eq_nil_of_le (by omega)
        rw [e1]
        cases ms.drop i <;> rfl
  | ns, ms, k + 1, i, hk => by
    refine .inl ?_
    have h1 : i < ns.length := by omega
    have h2 : i < ms.length := by omega
    rw [Ob.lexAt_succ, List.drop_eq_getElem_cons h1, List.drop_eq_getElem_cons h2]
    have g1 : ns.getD i 0 = ns[i] := by simp [h1]
    have g2 : ms.getD i 0 = ms[i] := by simp [h2]
    rw [g1, g2]
    show _ = if ms[i] = ns[i] then HT.lexLt (ms.drop (i + 1)) (ns.drop (i + 1)) else decide (ms[i] < ns[i])
    by_cases he : ns[i] = ms[i]
    · rw [if_pos (decide_eq_true he), if_pos he.symm]
      rcases lexAt_gt ns ms k (i + 1) (by omega) with h | h
      · exact h
      · omega
    · rw [if_neg (by simpa using he), if_neg (fun q => he q.symm)]
section
variable {X : Cx} {C : Cn} (hK : X.K = C.K) (hu : X.A.units + 64 < cLine)
/-- a comparison of two values -/
def CopR (C : Cn) (o : Cop) : R2 := R2D C fun x y S Q => wpCop o x y S fun c => Q (.bl c) S
theorem gt_tup (hu : X.A.units < cLine) {pins : List (Addr × Obj)} {s : Shared} {σ : L2.St} {H : Hp} {a b : Addr} {ns ms : List Int} {Q : VK} (I : Inv X pins σ H s)
    (ha : SqT X.K H a (ns.map V.int)) (hb : SqT X.K H b (ms.map V.int)) (q : Q (.bl (HT.lexLt ms ns)) H) : wpAny (model X.prog X.w) X.A (compareOp .Gt (.ref a) (.ref b)) (EP X pins σ Q) X.xe s := by
  obtain ⟨us, r1, p1, _⟩ := I.tuple ha
  obtain ⟨ws, r2, p2, _⟩ := I.tuple hb
  have i1 : IntsAre us ns := Vals.ints r1
  have i2 : IntsAre ws ms := Vals.ints r2
  have e1 : us.toArray.size = ns.length := (List.size_toArray ..).trans i1.length
  have e2 : ws.toArray.size = ms.length := (List.size_toArray ..).trans i2.length
  have g1 : ∀ j (h : j < us.toArray.size), ∃ t, us.toArray[j] = .int (ns.getD j 0) t := fun j h => IntsAre.int_at i1 _ _ (by simp at h; simp [h])
  have g2 : ∀ j (h : j < ws.toArray.size), ∃ t, ws.toArray[j] = .int (ms.getD j 0) t := fun j h => IntsAre.int_at i2 _ _ (by simp at h; simp [h])
  have R := Ob.RcOp.tuples_gt (A := X.A) (s := s) (e := fun j => decide (ns.getD j 0 = ms.getD j 0)) (r := fun j => decide (ms.getD j 0 < ns.getD j 0)) p1 p2 hu (fun j h1 h2 => by
    obtain ⟨t, q1⟩ := g1 j h1
    obtain ⟨t', q2⟩ := g2 j h2
    rw [q1, q2, ← Bool.beq_eq_decide_eq]
    exact SeqAt.EqAt.int_int _ _ _ _) fun j h1 h2 _ => by
    obtain ⟨t, q1⟩ := g1 j h1
    obtain ⟨t', q2⟩ := g2 j h2
    rw [q1, q2]
    exact Ob.RcOp.gt_int _ _ _ _
  rw [e1, e2] at R
  rcases lexAt_gt ns ms (min ns.length ms.length) 0 rfl with h | h
  · rw [h] at R
    exact R X.prog X.w X.xe (EP X pins σ Q) ⟨.bl _, H, I, rfl, q⟩
  · omega
theorem flatV_of {K : PySem.W.Frag} {H : Hp} {v : V} {d : D} (r : RV K H v d) (h : flatD d = true) : flatV v = true := by
  cases r <;> first | rfl | cases h
theorem flatVs_of {K : PySem.W.Frag} {H : Hp} : ∀ {vs : List V} {ds : List D}, RVs K H vs ds → (∀ d ∈ ds, flatD d = true) → vs.all flatV = true
  | _, _, .nil, _ => rfl
  | _, _, .cons h r, f => by
    rw [List.all_cons, flatV_of h (f _ (by simp)), flatVs_of r fun d hd => f d (by simp [hd])]
    rfl
theorem eqF_of {K : PySem.W.Frag} {H : Hp} {v u : V} {d e : D} (r : RV K H v d) (q : RV K H u e) (h : flatD d = true) (h' : flatD e = true) : eqV v u = eqF d e := by
  cases r <;> cases q <;> first | rfl | cases h | cases h'
theorem inF_of {K : PySem.W.Frag} {H : Hp} {v : V} {d : D} (r : RV K H v d) (h : flatD d = true) : ∀ {vs : List V} {ds : List D}, RVs K H vs ds → (∀ d ∈ ds, flatD d = true) → inV v vs = inF d ds
  | _, _, .nil, _ => rfl
  | _, _, .cons q rs, f => by
    have h1 := inF_of r h rs fun d hd => f d (by simp [hd])
    have h2 := eqF_of q r (f _ (by simp)) h
    show (eqV _ _ || inV _ _) = (eqF _ _ || inF _ _)
    rw [h1, h2]
theorem isNon_of {K : PySem.W.Frag} {H : Hp} {v : V} {d : D} (r : RV K H v d) : decide (v = .non) = isNon d := by
  cases r <;> rfl
theorem kD_eq {k k' : Key} : eqK (kD k) (kD k') = decide (k = k') := by
  cases k <;> cases k' <;> simp [kD, eqK] <;> rfl
theorem kV_of {K : PySem.W.Frag} {H : Hp} {v : V} {k : Key} (r : RV K H v (kD k)) : v = kV k := by
  cases k <;> cases r <;> rfl
theorem RKs.get {C : Cn} {H : Hp} (k : Key) : ∀ {l : List (Key × V)} {m : List (D × D)}, RKs C H l m → match valV l k, getK (kD k) m with
    | some v, some d => RV C.K H v d
    | none, none => True
    | _, _ => False
  | _, _, .nil => trivial
  | _, _, .cons (k := k') (v := v) h r => by
    have ih := RKs.get k r
    unfold getK
    rw [kD_eq]
    by_cases e : k' = k
    · rw [valV_pos (p := (k', v)) e, if_pos (decide_eq_true e)]
      exact h
    · rw [valV_neg (p := (k', v)) e, if_neg (by simpa using e)]
      exact ih
theorem RKs.isSome {C : Cn} {H : Hp} {k : Key} {l : List (Key × V)} {m : List (D × D)} (r : RKs C H l m) : (valV l k).isSome = (getK (kD k) m).isSome := by
  have h := r.get k
  revert h
  cases valV l k <;> cases getK (kD k) m <;> intro h <;> first | rfl | exact h.elim
theorem RKs.val {C : Cn} {H : Hp} {k : Key} {l : List (Key × V)} {m : List (D × D)} {d : D} (r : RKs C H l m) (e : getK (kD k) m = some d) : ∃ v, valV l k = some v ∧ RV C.K H v d := by
  have h := r.get k
  rw [e] at h
  revert h
  cases valV l k <;> intro h
  · exact h.elim
  · exact ⟨_, rfl, h⟩
theorem RKs.length {C : Cn} {H : Hp} : ∀ {l : List (Key × V)} {m : List (D × D)}, RKs C H l m → l.length = m.length
  | _, _, .nil => rfl
  | _, _, .cons _ r => congrArg (· + 1) r.length
theorem key_of {d : D} (h : isKey d = true) : ∃ k : Key, d = kD k := by
  cases d with
  | int i => exact ⟨.inl i, rfl⟩
  | str s => exact ⟨.inr s, rfl⟩
  | _ => cases h
/-- a dict that may be read -/
theorem SOk.rdic {C : Cn} {H : Hp} {S : Store} (ok : SOk C H S) {a : Addr} {kvs : List (D × D)} (h : S.rd a = some (.dic kvs)) : ∃ kvs', Rd H a (.dK kvs') ∧ RKs C H kvs' kvs := by
  unfold Store.rd at h
  cases e : S a with
  | none => rw [e] at h; cases h
  | some c =>
    rw [e] at h
    have h : unfz c = .dic kvs := Option.some.inj h
    cases c with
    | lst _ => cases h
    | ins _ _ => cases h
    | dic _ =>
      cases h
      obtain ⟨l, e1, r⟩ := ok.dic e
      exact ⟨l, .inl e1, r⟩
    | fz c =>
      cases (show c = .dic kvs from h)
      obtain ⟨o, l, e1, r⟩ := ok a _ e
      exact ⟨l, .inr ⟨o, e1⟩, r⟩
theorem SOk.dget {C : Cn} {H : Hp} {S : Store} (ok : SOk C H S) {a : Addr} {kvs : List (D × D)} (h : S.rd a = some (.dic kvs)) (k : Key) :
    ∃ o, DGet H a (kV k) o ∧ (match o, getK (kD k) kvs with | some v, some d => RV C.K H v d | none, none => True | _, _ => False) := by
  obtain ⟨l, e, r⟩ := ok.rdic h
  exact ⟨_, .inl ⟨l, k, e, rfl, rfl⟩, r.get k⟩
section
include hK hu
omit hK hu in
theorem dec_strV (s t : Str) : decide ((V.str s) = (V.str t)) = decide (s = t) := decide_eq_decide.mpr ⟨fun z => by cases z; rfl, fun z => by rw [z]⟩
theorem copr_eq : OpR X (compareOp .Eq) (CopR C .eq) := by
  intro pins s σ H x y v u Q I rx ry h
  obtain ⟨dx, dy, S, r1, r2, ok, h⟩ := h
  have h : wpEq dx dy S fun c => QV C H Q (.bl c) S := h
  unfold wpEq at h
  split at h
  · cases r1
    cases r2
    exact op_eq pins _ σ H _ _ v u Q I rx ry ⟨rfl, by rw [dec_strV]; exact h.at ok (.bl _)⟩
  obtain ⟨n, p, q, e1, e2, s1, s2, h⟩ := h
  exact op_eqD hu pins s σ H x y v u Q I rx ry ⟨p, q, hK ▸ dp_of ok n _ _ _ r1 e1, hK ▸ dp_of ok n _ _ _ r2 e2, s1, s2, h.at ok (.bl _)⟩
theorem copr_ne : OpR X (compareOp .NotEq) (CopR C .ne) := by
  intro pins s σ H x y v u Q I rx ry h
  obtain ⟨dx, dy, S, r1, r2, ok, h⟩ := h
  have h : wpEq dx dy S fun c => QV C H Q (.bl (!c)) S := h
  unfold wpEq at h
  split at h
  · cases r1
    cases r2
    exact op_ne pins _ σ H _ _ v u Q I rx ry ⟨rfl, by rw [dec_strV]; exact h.at ok (.bl _)⟩
  obtain ⟨n, p, q, e1, e2, s1, s2, h⟩ := h
  exact op_neD hu pins s σ H x y v u Q I rx ry ⟨p, q, hK ▸ dp_of ok n _ _ _ r1 e1, hK ▸ dp_of ok n _ _ _ r2 e2, s1, s2, h.at ok (.bl _)⟩
theorem copr_lt : OpR X (compareOp .Lt) (CopR C .lt) := by
  intro pins s σ H x y v u Q I rx ry h
  obtain ⟨dx, dy, S, r1, r2, ok, h⟩ := h
  have h : wpLt dx dy fun c => QV C H Q (.bl c) S := h
  unfold wpLt at h
  split at h
  · cases r1; cases r2
    exact op_lt pins s σ H _ _ v u Q I rx ry ⟨_, _, rfl, rfl, h.at ok (.bl _)⟩
  · obtain ⟨ns, ms, e1, e2, h⟩ := h
    cases r1 with
    | tup t1 q1 =>
      cases r2 with
      | tup t2 q2 =>
        cases q1.ints e1
        cases q2.ints e2
        exact op_ltT (by omega) pins s σ H _ _ v u Q I rx ry ⟨_, _, ns, ms, rfl, rfl, hK ▸ t1, hK ▸ t2, h.at ok (.bl _)⟩
  · exact h.elim
theorem copr_gt : OpR X (compareOp .Gt) (CopR C .gt) := by
  intro pins s σ H x y v u Q I rx ry h
  obtain ⟨dx, dy, S, r1, r2, ok, h⟩ := h
  have h : wpLt dy dx fun c => QV C H Q (.bl c) S := h
  unfold wpLt at h
  split at h
  · cases r1; cases r2
    exact op_gt pins s σ H _ _ v u Q I rx ry ⟨_, _, rfl, rfl, h.at ok (.bl _)⟩
  · obtain ⟨ns, ms, e1, e2, h⟩ := h
    cases r1 with
    | tup t1 q1 =>
      cases r2 with
      | tup t2 q2 =>
        cases q1.ints e2
        cases q2.ints e1
        cases rx; cases ry
        exact gt_tup (by omega) I (hK ▸ t1) (hK ▸ t2) (h.at ok (.bl _))
  · exact h.elim
theorem copr_le : OpR X (compareOp .LtE) (CopR C .le) := by
  intro pins s σ H x y v u Q I rx ry h
  obtain ⟨dx, dy, S, r1, r2, ok, h⟩ := h
  cases r1 <;> first | (exfalso; exact h) | skip
  cases r2 <;> first | (exfalso; exact h) | skip
  have h : QV C H Q (.bl _) S := h
  exact op_le pins s σ H _ _ v u Q I rx ry ⟨_, _, rfl, rfl, h.at ok (.bl _)⟩
theorem copr_ge : OpR X (compareOp .GtE) (CopR C .ge) := by
  intro pins s σ H x y v u Q I rx ry h
  obtain ⟨dx, dy, S, r1, r2, ok, h⟩ := h
  cases r1 <;> first | (exfalso; exact h) | skip
  cases r2 <;> first | (exfalso; exact h) | skip
  have h : QV C H Q (.bl _) S := h
  exact op_ge pins s σ H _ _ v u Q I rx ry ⟨_, _, rfl, rfl, h.at ok (.bl _)⟩
theorem copr_is : OpR X (compareOp .Is) (CopR C .is) := by
  intro pins s σ H x y v u Q I rx ry h
  obtain ⟨dx, dy, S, r1, r2, ok, h⟩ := h
  cases r2 <;> first | (exfalso; cases r1 <;> exact h) | skip
  have h : QV C H Q (.bl (isNon dx)) S := by cases r1 <;> exact h
  refine op_isN pins s σ H _ _ v u Q I rx ry ⟨rfl, ?_⟩
  rw [isNon_of r1]
  exact h.at ok (.bl _)
theorem copr_isnot : OpR X (compareOp .IsNot) (CopR C .isnot) := by
  intro pins s σ H x y v u Q I rx ry h
  obtain ⟨dx, dy, S, r1, r2, ok, h⟩ := h
  cases r2 <;> first | (exfalso; cases r1 <;> exact h) | skip
  have h : QV C H Q (.bl (!isNon dx)) S := by cases r1 <;> exact h
  refine op_notN pins s σ H _ _ v u Q I rx ry ⟨rfl, ?_⟩
  rw [isNon_of r1]
  exact h.at ok (.bl _)
theorem copr_in : OpR X (compareOp .In) (CopR C .in_) := by
  intro pins s σ H x y v u Q I rx ry h
  obtain ⟨dx, dy, S, r1, r2, ok, h⟩ := h
  have h : wpIn dx dy S fun c => QV C H Q (.bl c) S := h
  unfold wpIn at h
  split at h
  · obtain ⟨f1, f2, h⟩ := h
    cases r2 with
    | tup t q =>
      refine op_in_seq pins s σ H _ _ v u Q I rx ry ⟨_, _, rfl, .inr (hK ▸ t), flatV_of r1 f1, flatVs_of q f2, ?_⟩
      rw [if_neg Bool.false_ne_true, inF_of r1 f1 q f2]
      exact h.at ok (.bl _)
  · cases r2
    rcases h with ⟨ys, e, f1, f2, h⟩ | ⟨kvs, e, f, h⟩
    · obtain ⟨vs, e1, q⟩ := ok.lst e
      refine op_in_seq pins s σ H _ _ v u Q I rx ry ⟨_, _, rfl, .inl (.of e1), flatV_of r1 f1, flatVs_of q f2, ?_⟩
      rw [if_neg Bool.false_ne_true, inF_of r1 f1 q f2]
      exact h.at ok (.bl _)
    · obtain ⟨k, rfl⟩ := key_of f
      obtain ⟨o, g, m⟩ := ok.dget e k
      have e1 := kV_of r1
      subst e1
      cases ry
      refine d_in (by omega) I g rx fun s' I' => ⟨.bl _, H, I', rfl, ?_⟩
      have e2 : o.isSome = (getK (kD k) kvs).isSome := by
        revert m
        cases o <;> cases getK (kD k) kvs <;> intro m <;> first | rfl | exact m.elim
      rw [e2]
      exact h.at ok (.bl _)
  · cases r2
    split at h
    · cases r1
      exact op_in_str pins s σ H _ _ v u Q I rx ry ⟨_, _, rfl, rfl, h.at ok (.bl _)⟩
    · exact h.elim
  · exact h.elim
theorem copr_notin : OpR X (compareOp .NotIn) (CopR C .notin) := by
  intro pins s σ H x y v u Q I rx ry h
  obtain ⟨dx, dy, S, r1, r2, ok, h⟩ := h
  have h : wpIn dx dy S fun c => QV C H Q (.bl (!c)) S := h
  unfold wpIn at h
  split at h
  · obtain ⟨f1, f2, h⟩ := h
    cases r2 with
    | tup t q =>
      refine op_notIn_seq pins s σ H _ _ v u Q I rx ry ⟨_, _, rfl, .inr (hK ▸ t), flatV_of r1 f1, flatVs_of q f2, ?_⟩
      rw [if_pos rfl, inF_of r1 f1 q f2]
      exact h.at ok (.bl _)
  · cases r2
    rcases h with ⟨ys, e, f1, f2, h⟩ | ⟨kvs, e, f, h⟩
    · obtain ⟨vs, e1, q⟩ := ok.lst e
      refine op_notIn_seq pins s σ H _ _ v u Q I rx ry ⟨_, _, rfl, .inl (.of e1), flatV_of r1 f1, flatVs_of q f2, ?_⟩
      rw [if_pos rfl, inF_of r1 f1 q f2]
      exact h.at ok (.bl _)
    · obtain ⟨k, rfl⟩ := key_of f
      obtain ⟨o, g, m⟩ := ok.dget e k
      have e1 := kV_of r1
      subst e1
      cases ry
      refine d_notIn (by omega) I g rx fun s' I' => ⟨.bl _, H, I', rfl, ?_⟩
      have e2 : o.isSome = (getK (kD k) kvs).isSome := by
        revert m
        cases o <;> cases getK (kD k) kvs <;> intro m <;> first | rfl | exact m.elim
      rw [e2]
      exact h.at ok (.bl _)
  · cases r2
    split at h
    · cases r1
      exact op_notin_str pins s σ H _ _ v u Q I rx ry ⟨_, _, rfl, rfl, h.at ok (.bl _)⟩
    · exact h.elim
  · exact h.elim
/-- a subscript -/
theorem ixr : IxR X (R2D C fun x y S Q => wpIx x y S fun d => Q d S) := by
  intro value slice pins s σ H x y v u Q I rx ry h hs
  obtain ⟨dx, dy, S, r1, r2, ok, h⟩ := h
  have h : wpIx dx dy S fun d => QV C H Q d S := h
  unfold wpIx at h
  split at h
  · obtain ⟨i, d, rfl, e, h⟩ := h
    cases r2
    cases r1 with
    | tup t q =>
      obtain ⟨w, e1, q1⟩ := q.atI e
      exact ix_tup value slice pins s σ H _ _ v u Q I rx ry ⟨_, _, _, _, rfl, rfl, hK ▸ t, e1, h.at ok q1⟩ hs
  · obtain ⟨i, d, rfl, e, h⟩ := h
    cases r2
    cases r1 with
    | rl t q =>
      obtain ⟨w, e1, q1⟩ := q.atI e
      exact ix_list value slice pins s σ H _ _ v u Q I rx ry ⟨_, _, _, _, rfl, rfl, hK ▸ t.sq, e1, h.at ok q1⟩ hs
  · obtain ⟨i, c, rfl, hl, e, h⟩ := h
    cases r2
    cases r1
    exact ix_str value slice pins s σ H _ _ v u Q I rx ry ⟨_, _, _, rfl, rfl, hl, e, h.at ok (.str _)⟩ hs
  · cases r1
    rcases h with ⟨xs, i, d, e0, rfl, e, h⟩ | ⟨kvs, d, e0, f, e, hq⟩
    · cases r2
      obtain ⟨vs, e2, q⟩ := ok.lst e0
      obtain ⟨w, e1, q1⟩ := q.atI e
      exact ix_list value slice pins s σ H _ _ v u Q I rx ry ⟨_, _, _, _, rfl, rfl, .of e2, e1, h.at ok q1⟩ hs
    · obtain ⟨k, rfl⟩ := key_of f
      have e1 := kV_of r2
      subst e1
      cases rx
      obtain ⟨l, el, rl⟩ := ok.rdic e0
      obtain ⟨w, ew, rw'⟩ := rl.val e
      have g : DGet H _ (kV k) (some w) := .inl ⟨l, k, el, rfl, ew.symm⟩
      have hT := dict_typeIs I g
      unfold subscriptTail
      refine wpAny_bind ?_
      rw [getitemInPython_of_ne hT.not_modules]
      refine wpAny_bind (wpAny_specialOf hT PySem.F.slot_dict_getitem.lookup ?_)
      refine wpAny_pure (wpAny_bind ?_)
      rw [hs]
      refine wpAny_operating (d_getItem (by omega) I g ry fun w' s' I' rw2 => ?_)
      exact wpAny_bind (wpAny_letTemporaryGo (wpAny_pure ⟨w, H, I', rw2, QV.at hq ok rw'⟩))
  · exact h.elim
theorem slr (C' : Cn) (hC : C' = C) : SlR X fun x lo hi H Q => ∃ dx S, RV C.K H x dx ∧ SOk C H S ∧ wpSl dx lo hi S (QV C H Q) := by
  intro pins s σ H x v vl vu lo hi sl Q I rx hs pl pu h
  obtain ⟨dx, S, r1, ok, h⟩ := h
  unfold wpSl at h
  split at h
  · cases r1 with
    | tup t q =>
      rename_i ds p vs
      refine sl_tupA pins s σ H _ v vl vu lo hi sl Q I rx hs pl pu ⟨_, _, rfl, hK ▸ t, fun e => ?_, fun _ p hp => h.tup ok (q.cut lo hi) hp⟩
      have e2 : cutL ds lo hi = ds := by
        unfold cutL
        rw [q.length] at e
        rw [e.1, e.2, List.drop_zero, Nat.sub_zero, List.take_length]
      rw [e2] at h
      exact h.at ok (.tup t q)
  · cases r1
    exact sl_str pins s σ H _ v vl vu lo hi sl Q I rx hs pl pu ⟨_, rfl, h.1, h.2.at ok (.str _)⟩
  · cases r1
    obtain ⟨xs, e, h⟩ := h
    obtain ⟨vs, e1, q⟩ := ok.lst e
    exact sl_list pins s σ H _ v vl vu lo hi sl Q I rx hs pl pu ⟨_, _, rfl, .of e1, fun p hp => QV.new h ok (q.cut lo hi) hp⟩
  · cases r1 with
    | rl t q => exact sl_list pins s σ H _ v vl vu lo hi sl Q I rx hs pl pu ⟨_, _, rfl, hK ▸ t.sq, fun p hp => QV.new h ok (q.cut lo hi) hp⟩
  · exact h.elim
end
end
end SW
/-! SW, part E: built-in functions, methods, isinstance. -/
namespace SW
open PySem PySem.Spec PyProof.Rows L2
/-- a call's arguments, as data -/
def RLD (C : Cn) (w : List D → Store → PQ → Prop) : List V → Hp → VK → Prop := fun vs H Q => ∃ ds S, RVs C.K H vs ds ∧ SOk C H S ∧ w ds S (QV C H Q)
def bltVal : Blt → Value
  | .len => .builtin "len"
  | .int => .type "int"
  | .max => .builtin "max"
  | .min => .builtin "min"
  | .list => .type "list"
  | .tuple => .type "tuple"
  | .sorted => .builtin "sorted"
  | .str => .type "str"
  | .abs => .builtin "abs"
  | .sum => .builtin "sum"
  | .all => .builtin "all"
  | .any => .builtin "any"
  | .bool => .type "bool"
section
variable {X : Cx} {C : Cn} (hK : X.K = C.K) (hc : X.calm = true) (hu : X.A.units + 64 < cLine)
/-- a sequence that may be read -/
theorem sq_of {H : Hp} {S : Store} (ok : SOk C H S) {v : V} {d : D} {xs : List D} (r : RV C.K H v d) (h : seqOf S d = some xs) :
    ∃ p vs, v = .ref p ∧ RVs C.K H vs xs ∧ (SqL C.K H p vs ∨ (SqT C.K H p vs ∧ d = .tup xs)) := by
  cases r with
  | tup t q => cases h; exact ⟨_, _, rfl, q, .inr ⟨t, rfl⟩⟩
  | rl t q => cases h; exact ⟨_, _, rfl, q, .inl t.sq⟩
  | ref a =>
    simp only [seqOf] at h
    cases e : S a with
    | none => rw [e] at h; cases h
    | some c =>
      rw [e] at h
      cases c with
      | lst ys =>
        cases h
        obtain ⟨vs, e1, q⟩ := ok.lst e
        exact ⟨_, _, rfl, q, .inl (.of e1)⟩
      | dic _ => cases h
      | ins _ _ => cases h
      | fz _ => cases h
  | _ => cases h
/-! max, min of a tuple of ints -/
theorem hold_ints {h : Heap} : ∀ {ns : List Int} {us : List Value}, Vals (ns.map V.int) us → PySem.W.HoldAll h us ns
  | [], us, r => by
    cases r
    exact PySem.W.HoldAll.nil
  | n :: ns, us, r => by
    rw [List.map_cons] at r
    cases r with
    | cons r1 r2 =>
      obtain ⟨t, rfl⟩ := r1
      exact PySem.W.HoldAll.cons ⟨_, .int n t⟩ (hold_ints r2)
theorem maxOf_spec (x : Int) : ∀ xs : List Int, PySem.W.maxOf x xs ∈ x :: xs ∧ ∀ y ∈ x :: xs, y ≤ PySem.W.maxOf x xs := by
  intro xs
  unfold PySem.W.maxOf
  induction xs generalizing x with
  | nil => exact ⟨List.mem_cons_self, fun y hy => by rw [List.mem_singleton] at hy; exact Int.le_of_eq hy⟩
  | cons z zs ih =>
    rw [List.foldl_cons]
    have lt : PySem.W.DatumOrd.lt x z = decide (x < z) := rfl
    rw [lt]
    by_cases h : x < z
    · rw [decide_eq_true h, if_pos rfl]
      obtain ⟨h1, h2⟩ := ih z
      refine ⟨List.mem_cons_of_mem _ h1, fun y hy => ?_⟩
      rcases List.mem_cons.mp hy with e | hy
      · rw [e]
        exact Int.le_trans (Int.le_of_lt h) (h2 z List.mem_cons_self)
      · exact h2 y hy
    · rw [decide_eq_false h, if_neg Bool.false_ne_true]
      obtain ⟨h1, h2⟩ := ih x
      refine ⟨?_, fun y hy => ?_⟩
      · rcases List.mem_cons.mp h1 with e | h1
        · rw [e]; exact List.mem_cons_self
        · exact List.mem_cons_of_mem _ (List.mem_cons_of_mem _ h1)
      · rcases List.mem_cons.mp hy with e | hy
        · exact h2 y (by rw [e]; exact List.mem_cons_self)
        · rcases List.mem_cons.mp hy with e | hy
          · rw [e]
            exact Int.le_trans (Int.not_lt.mp h) (h2 x List.mem_cons_self)
          · exact h2 y (List.mem_cons_of_mem _ hy)
theorem minOf_spec (x : Int) : ∀ xs : List Int, PySem.W.minOf x xs ∈ x :: xs ∧ ∀ y ∈ x :: xs, PySem.W.minOf x xs ≤ y := by
  intro xs
  unfold PySem.W.minOf
  induction xs generalizing x with
  | nil => exact ⟨List.mem_cons_self, fun y hy => by rw [List.mem_singleton] at hy; exact Int.le_of_eq hy.symm⟩
  | cons z zs ih =>
    rw [List.foldl_cons]
    have lt : PySem.W.DatumOrd.lt z x = decide (z < x) := rfl
    rw [lt]
    by_cases h : z < x
    · rw [decide_eq_true h, if_pos rfl]
      obtain ⟨h1, h2⟩ := ih z
      refine ⟨List.mem_cons_of_mem _ h1, fun y hy => ?_⟩
      rcases List.mem_cons.mp hy with e | hy
      · rw [e]
        exact Int.le_trans (h2 z List.mem_cons_self) (Int.le_of_lt h)
      · exact h2 y hy
    · rw [decide_eq_false h, if_neg Bool.false_ne_true]
      obtain ⟨h1, h2⟩ := ih x
      refine ⟨?_, fun y hy => ?_⟩
      · rcases List.mem_cons.mp h1 with e | h1
        · rw [e]; exact List.mem_cons_self
        · exact List.mem_cons_of_mem _ (List.mem_cons_of_mem _ h1)
      · rcases List.mem_cons.mp hy with e | hy
        · exact h2 y (by rw [e]; exact List.mem_cons_self)
        · rcases List.mem_cons.mp hy with e | hy
          · rw [e]
            exact Int.le_trans (h2 x List.mem_cons_self) (Int.not_lt.mp h)
          · exact h2 y (List.mem_cons_of_mem _ hy)
def rMaxA (K : PySem.W.Frag) : List V → Hp → VK → Prop := fun vs H Q => ∃ (a : Addr) (ns : List Int), vs = [V.ref a] ∧ (SqL K H a (ns.map V.int) ∨ SqT K H a (ns.map V.int)) ∧ 0 < ns.length ∧ ∀ m, m ∈ ns → (∀ y, y ∈ ns → y ≤ m) → Q (.int m) H
def rMinA (K : PySem.W.Frag) : List V → Hp → VK → Prop := fun vs H Q => ∃ (a : Addr) (ns : List Int), vs = [V.ref a] ∧ (SqL K H a (ns.map V.int) ∨ SqT K H a (ns.map V.int)) ∧ 0 < ns.length ∧ ∀ m, m ∈ ns → (∀ y, y ∈ ns → m ≤ y) → Q (.int m) H
theorem holds_int {h : Heap} {v : Value} {m : Int} (H : PySem.W.Holds h v m) : ∃ t, v = .int m t := by
  obtain ⟨as, r⟩ := H
  have r' : PySem.Reads h v (.int m) as := r
  cases r'
  exact ⟨_, rfl⟩
omit hK in
include hc hu in
theorem cr_maxA : CallR X (.builtin "max") (rMaxA X.K) := by
  intro pins s σ H vs us Q I r ⟨a, ns, e, h, hne, q⟩
  rcases h with h | h
  · exact cr_max hc pins s σ H vs us Q I r ⟨a, ns, e, h, hne, q⟩
  · subst e
    obtain ⟨its, rv, p, _⟩ := I.tuple h
    rw [Vals.ref1 r]
    cases ns with
    | nil => exact absurd hne (by decide)
    | cons x xs =>
      obtain ⟨m1, m2⟩ := maxOf_spec x xs
      refine PySem.W.max_tuple_datum (x := x) (xs := xs) (I.ok.hd hc) (show s.heap.IsTuple a its.toArray from p) (by simpa using hold_ints (h := s.heap) rv) (Nat.lt_of_le_of_lt (show X.A.units + 1 + 0 ≤ X.A.units + 64 by omega) hu) fun i v h' tk hi hh hk => ?_
      obtain ⟨t, rfl⟩ := holds_int hh
      exact ⟨.int _, H, I.kept hk, ⟨_, rfl⟩, q _ m1 m2⟩
omit hK in
include hc hu in
theorem cr_minA : CallR X (.builtin "min") (rMinA X.K) := by
  intro pins s σ H vs us Q I r ⟨a, ns, e, h, hne, q⟩
  rcases h with h | h
  · exact cr_min hc pins s σ H vs us Q I r ⟨a, ns, e, h, hne, q⟩
  · subst e
    obtain ⟨its, rv, p, _⟩ := I.tuple h
    rw [Vals.ref1 r]
    cases ns with
    | nil => exact absurd hne (by decide)
    | cons x xs =>
      obtain ⟨m1, m2⟩ := minOf_spec x xs
      refine PySem.W.min_tuple_datum (x := x) (xs := xs) (I.ok.hd hc) (show s.heap.IsTuple a its.toArray from p) (by simpa using hold_ints (h := s.heap) rv) (Nat.lt_of_le_of_lt (show X.A.units + 1 + 0 ≤ X.A.units + 64 by omega) hu) fun i v h' tk hi hh hk => ?_
      obtain ⟨t, rfl⟩ := holds_int hh
      exact ⟨.int _, H, I.kept hk, ⟨_, rfl⟩, q _ m1 m2⟩
include hc in
/-- sum of a list, a tuple of ints -/
theorem cr_sumA : CallR X (.builtin "sum") (fun vs H Q => ∃ (a : Addr) (ns : List Int), vs = [V.ref a] ∧ (SqL X.K H a (ns.map V.int) ∨ SqT X.K H a (ns.map V.int)) ∧ Q (.int ns.sum) H) := by
  intro pins s σ H vs us Q I r ⟨a, ns, e, h, q⟩
  rcases h with h | h
  · exact cr_sum hc pins s σ H vs us Q I r ⟨a, ns, e, h, q⟩
  · subst e
    obtain ⟨its, rv, p, _⟩ := I.tuple h
    rw [Vals.ref1 r]
    have hi := rv.ints
    obtain ⟨xs, ex⟩ := hi.allInts.items
    have hn : numsOf (intItems xs).toList = ns := by rw [← ex]; exact hi.numsOf
    rw [nums_intItems] at hn
    rw [ex] at p
    refine PySem.W.ktm_sumG (I.ok.hd hc) p fun h' tk t' hk => ?_
    rw [preSum_eq, List.take_of_length_le (by simp), hn]
    exact ⟨.int _, H, I.kept hk, ⟨_, rfl⟩, q⟩
theorem lex_list : ∀ xs ys : List Int, PySem.W.listLt xs ys = HT.lexLt xs ys
  | [], [] => rfl
  | [], _ :: _ => rfl
  | _ :: _, [] => rfl
  | x :: xs, y :: ys => by
    unfold PySem.W.listLt HT.lexLt
    rw [lex_list xs ys]
    rfl
theorem ints_map : ∀ {ys : List D} {n : List Int}, intsOf ys = some n → ys = n.map .int
  | [], n, h => by cases h; rfl
  | y :: ys, n, h => by
    cases y with
    | int i =>
      simp only [intsOf] at h
      cases e : intsOf ys with
      | none => rw [e] at h; cases h
      | some k =>
        rw [e] at h
        cases h
        rw [ints_map e]
        rfl
    | _ => cases h
theorem tups_get {K : PySem.W.Frag} {H : Hp} : ∀ {xs : List D} {ts : List (List Int)} {vs : List V}, tupsOf xs = some ts → RVs K H vs xs →
    ∃ ps : List Addr, vs = ps.map V.ref ∧ ps.length = ts.length ∧ (∀ (i : Nat) p t, ps[i]? = some p → ts[i]? = some t → SqT K H p (t.map V.int)) ∧ xs = ts.map fun t => D.tup (t.map .int)
  | [], ts, vs, h, r => by
    cases h
    cases r
    exact ⟨[], rfl, rfl, fun i p t e => (by simp at e), rfl⟩
  | x :: xs, ts, vs, h, r => by
    cases x with
    | tup ys =>
      simp only [tupsOf] at h
      cases e1 : intsOf ys with
      | none => rw [e1] at h; cases h
      | some n =>
        cases e2 : tupsOf xs with
        | none => rw [e1, e2] at h; cases h
        | some m =>
          rw [e1, e2] at h
          cases h
          cases r with
          | cons r1 r2 =>
            obtain ⟨ps, e3, e4, e5, e6⟩ := tups_get e2 r2
            cases r1 with
            | @tup p ws _ t q =>
              have ew := q.ints e1
              refine ⟨p :: ps, by rw [e3]; rfl, by rw [List.length_cons, e4]; rfl, fun i p' t' h1 h2 => ?_, by rw [e6, ints_map e1]; rfl⟩
              cases i with
              | zero =>
                cases h1
                cases h2
                rw [← ew]
                exact t
              | succ i => exact e5 i p' t' (by simpa using h1) (by simpa using h2)
    | _ => cases h
theorem vals_refs {us : List Value} : ∀ {ps : List Addr} {us : List Value}, Vals (ps.map V.ref) us → us = ps.map Value.ref
  | [], us, r => by cases r; rfl
  | p :: ps, us, r => by
    rw [List.map_cons] at r
    cases r with
    | cons r1 r2 =>
      cases r1
      rw [vals_refs (us := us) r2]
      rfl
theorem lex_asym : ∀ a b : List Int, HT.lexLt a b = true → HT.lexLt b a = false
  | [], [], h => by cases h
  | [], _ :: _, _ => rfl
  | _ :: _, [], h => by cases h
  | x :: xs, y :: ys, h => by
    unfold HT.lexLt at h ⊢
    by_cases e : x = y
    · rw [if_pos e] at h
      rw [if_pos e.symm]
      exact lex_asym xs ys h
    · rw [if_neg e, decide_eq_true_eq] at h
      rw [if_neg (fun z => e z.symm), decide_eq_false_iff_not]
      omega
theorem lex_le_trans : ∀ a b c : List Int, HT.lexLt b a = false → HT.lexLt c b = false → HT.lexLt c a = false
  | [], _, [], _, _ => rfl
  | [], [], _ :: _, _, h => h
  | [], _ :: _, _ :: _, _, _ => rfl
  | _ :: _, [], _, h, _ => by cases h
  | _ :: _, _ :: _, [], _, h => by cases h
  | x :: xs, y :: ys, z :: zs, h1, h2 => by
    unfold HT.lexLt at h1 h2 ⊢
    by_cases e1 : y = x
    · rw [if_pos e1] at h1
      by_cases e2 : z = y
      · rw [if_pos e2] at h2
        rw [if_pos (e2.trans e1)]
        exact lex_le_trans xs ys zs h1 h2
      · rw [if_neg e2, decide_eq_false_iff_not] at h2
        rw [if_neg (by omega), decide_eq_false_iff_not]
        omega
    · rw [if_neg e1, decide_eq_false_iff_not] at h1
      by_cases e2 : z = y
      · rw [if_neg (by omega), decide_eq_false_iff_not]
        omega
      · rw [if_neg e2, decide_eq_false_iff_not] at h2
        rw [if_neg (by omega), decide_eq_false_iff_not]
        omega
theorem lex_irr : ∀ a : List Int, HT.lexLt a a = false
  | [] => rfl
  | x :: xs => by
    unfold HT.lexLt
    rw [if_pos rfl]
    exact lex_irr xs
theorem minOf_specT (x : PySem.W.Tup Int) (xs : List (PySem.W.Tup Int)) : PySem.W.minOf x xs ∈ x :: xs ∧ ∀ y ∈ x :: xs, HT.lexLt y.items (PySem.W.minOf x xs).items = false := by
  unfold PySem.W.minOf
  induction xs generalizing x with
  | nil => exact ⟨List.mem_cons_self, fun y hy => by rw [List.mem_singleton] at hy; rw [hy]; exact lex_irr _⟩
  | cons z zs ih =>
    rw [List.foldl_cons]
    have lt : PySem.W.DatumOrd.lt z x = HT.lexLt z.items x.items := lex_list _ _
    rw [lt]
    cases h : HT.lexLt z.items x.items with
    | true =>
      rw [if_pos rfl]
      obtain ⟨h1, h2⟩ := ih z
      refine ⟨List.mem_cons_of_mem _ h1, fun y hy => ?_⟩
      rcases List.mem_cons.mp hy with e | hy
      · rw [e]
        exact lex_le_trans _ _ _ (h2 z List.mem_cons_self) (lex_asym _ _ h)
      · exact h2 y hy
    | false =>
      rw [if_neg Bool.false_ne_true]
      obtain ⟨h1, h2⟩ := ih x
      refine ⟨?_, fun y hy => ?_⟩
      · rcases List.mem_cons.mp h1 with e | h1
        · rw [e]; exact List.mem_cons_self
        · exact List.mem_cons_of_mem _ (List.mem_cons_of_mem _ h1)
      · rcases List.mem_cons.mp hy with e | hy
        · exact h2 y (by rw [e]; exact List.mem_cons_self)
        · rcases List.mem_cons.mp hy with e | hy
          · rw [e]
            exact lex_le_trans _ _ _ (h2 x List.mem_cons_self) h
          · exact h2 y (List.mem_cons_of_mem _ hy)
theorem holds_eq {h : Heap} {v : Value} {x y : PySem.W.Tup Int} (a : PySem.W.Holds h v x) (b : PySem.W.Holds h v y) : x = y := by
  obtain ⟨as, ra⟩ := a
  obtain ⟨bs, rb⟩ := b
  have e := SeqAt.plain_unique _ _ _ _ _ (PySem.W.Datum.plain x) ra rb
  have z := PySem.W.Datum.eqv x y
  rw [← e, SeqAt.eqv_refl_plain _ (PySem.W.Datum.plain x)] at z
  exact of_decide_eq_true z.symm
omit hK in
include hc hu in
/-- min of a list of tuples of ints -/
theorem cr_minT : CallR X (.builtin "min") (fun vs H Q => ∃ (a : Addr) (ps : List Addr) (ts : List (List Int)), vs = [V.ref a] ∧ SqL X.K H a (ps.map V.ref) ∧ ps.length = ts.length ∧ (∀ (i : Nat) p t, ps[i]? = some p → ts[i]? = some t → SqT X.K H p (t.map V.int)) ∧ 0 < ts.length ∧
    ∀ (i : Nat) p t, ps[i]? = some p → ts[i]? = some t → (∀ y, y ∈ ts → HT.lexLt y t = false) → Q (.ref p) H) := by
  intro pins s σ H vs us Q I r ⟨a, ps, ts, e, h, hl, ht, hne, q⟩
  subst e
  obtain ⟨its, rv, p, _⟩ := I.list h
  rw [Vals.ref1 r]
  have eits := vals_refs (us := its) rv
  subst eits
  have hold : ∀ (ps : List Addr) (ts : List (List Int)), ps.length = ts.length → (∀ (i : Nat) p t, ps[i]? = some p → ts[i]? = some t → SqT X.K H p (t.map V.int)) → PySem.W.HoldAll s.heap (ps.map Value.ref) (ts.map PySem.W.Tup.mk) := by
    intro ps
    induction ps with
    | nil =>
      intro ts e _
      cases ts with
      | nil => exact PySem.W.HoldAll.nil
      | cons _ _ => cases e
    | cons p ps ih =>
      intro ts e hh
      cases ts with
      | nil => cases e
      | cons t ts =>
        rw [List.map_cons, List.map_cons]
        refine PySem.W.HoldAll.cons ?_ (ih ts (by simpa using e) fun i p t h1 h2 => hh (i + 1) p t (by simpa using h1) (by simpa using h2))
        obtain ⟨it, r2, p2, _⟩ := I.tuple (hh 0 p t rfl rfl)
        exact PySem.W.holds_tup p2 (by simpa using hold_ints (h := s.heap) r2)
  have hA := hold ps ts hl ht
  cases ts with
  | nil => exact absurd hne (by decide)
  | cons t0 ts0 =>
    rw [List.map_cons] at hA
    obtain ⟨m1, m2⟩ := minOf_specT ⟨t0⟩ (ts0.map PySem.W.Tup.mk)
    refine PySem.W.min_list_datum (x := ⟨t0⟩) (xs := ts0.map PySem.W.Tup.mk) (I.ok.hd hc) (show s.heap.IsList a (ps.map Value.ref).toArray from p.isList) (by simpa using hA) (Nat.lt_of_le_of_lt (show X.A.units + 1 + 1 ≤ X.A.units + 64 by omega) hu) fun i v h' tk hi hh hk => ?_
    have hi' : (ps.map Value.ref)[i]? = some v := by simpa using hi
    rw [List.getElem?_map] at hi'
    cases hp : ps[i]? with
    | none => rw [hp] at hi'; cases hi'
    | some pi =>
      rw [hp] at hi'
      cases hi'
      obtain ⟨x, hx, hx2⟩ := (PySem.W.HoldAll.keeps hk hA).at (i := i) (v := .ref pi) (by rw [List.getElem?_map, hp]; rfl)
      have e := holds_eq hx2 hh
      rw [← List.map_cons (f := PySem.W.Tup.mk), List.getElem?_map] at hx
      cases ht2 : (t0 :: ts0)[i]? with
      | none => rw [ht2] at hx; cases hx
      | some ti =>
        rw [ht2] at hx
        cases hx
        refine ⟨.ref pi, H, I.kept hk, rfl, q i pi ti hp ht2 fun y hy => ?_⟩
        have z := m2 ⟨y⟩ (by rw [← List.map_cons (f := PySem.W.Tup.mk)]; exact List.mem_map.mpr ⟨y, hy, rfl⟩)
        rw [← e] at z
        exact z
/-! ### sorted(a list of tuples of ints) -/
def noTx : Nat → Bool := fun _ => false
theorem items_tup : ∀ {ns : List Int} {us : List Value} (i : Nat), Vals (ns.map V.int) us → tupItems noTx i us = some (ns.map Sum.inl)
  | [], us, i, r => by cases r; rfl
  | n :: ns, us, i, r => by
    rw [List.map_cons] at r
    cases r with
    | cons r1 r2 =>
      obtain ⟨t, rfl⟩ := r1
      have ih := items_tup (i + 1) r2
      show (if noTx i = true then none else (tupItems noTx (i + 1) _).map (Sum.inl n :: ·)) = _
      rw [if_neg (by show ¬ false = true; decide), ih]
      rfl
theorem lex_items : ∀ a b : List Int, PyProof.Rows.lexLt itemOrd (a.map Sum.inl) (b.map Sum.inl) = HT.lexLt a b
  | [], [] => rfl
  | [], _ :: _ => rfl
  | _ :: _, [] => rfl
  | x :: xs, y :: ys => by
    have ih := lex_items xs ys
    show (decide (x < y) || (!decide (y < x) && PyProof.Rows.lexLt itemOrd (xs.map Sum.inl) (ys.map Sum.inl))) = (if x = y then HT.lexLt xs ys else decide (x < y))
    rw [ih]
    by_cases e : x = y
    · subst e
      rw [if_pos rfl, decide_eq_false (Int.lt_irrefl x)]
      rfl
    · rw [if_neg e]
      by_cases l : x < y
      · rw [decide_eq_true l]; rfl
      · rw [decide_eq_false l, decide_eq_true (show y < x by omega)]; rfl
theorem keyC_of {h : Heap} {sh : Nat → Bool} {a : Addr} {o : Obj} {xs : Array Value} {n : Nat} {l : List (Int ⊕ List Nat)} (ho : h.get? a = some o) (hc : o.cls = .type "tuple") (hd : o.data = .seq xs n) (hi : tupItems sh 0 xs.toList = some l) : G.tupKeyC h sh (.ref a) = some l := by
  unfold G.tupKeyC
  rw [if_pos (by simp [G.isTupObj, ho, hc])]
  simp only [tupKey, ho, hd]
  exact hi
theorem tups_ex {h : Heap} {sh : Nat → Bool} : ∀ {vs : List Value}, (∀ v ∈ vs, ∃ f, TupOf h sh v f) → ∃ fs, TupsOf h sh vs fs
  | [], _ => ⟨[], .nil⟩
  | v :: vs, H => by
    obtain ⟨f, hf⟩ := H v List.mem_cons_self
    obtain ⟨fs, hfs⟩ := tups_ex (vs := vs) fun u hu => H u (List.mem_cons_of_mem _ hu)
    exact ⟨f :: fs, .cons hf hfs⟩
def adV : Value → Addr
  | .ref a => a
  | _ => 0
def inlL (l : List (Int ⊕ List Nat)) : List Int := l.filterMap fun x => match x with | .inl i => some i | .inr _ => none
theorem inlL_map : ∀ t : List Int, inlL (t.map Sum.inl) = t
  | [] => rfl
  | x :: t => by
    have ih := inlL_map t
    unfold inlL at ih ⊢
    rw [List.map_cons, List.filterMap_cons, ih]
theorem zip_ext {α β : Type} (f : α → β) : ∀ {xs : List α} {ys : List β}, xs.length = ys.length → (∀ (i : Nat) x y, xs[i]? = some x → ys[i]? = some y → f x = y) → xs.map (fun x => (x, f x)) = xs.zip ys
  | [], [], _, _ => rfl
  | x :: xs, y :: ys, hl, h => by
    rw [List.map_cons, List.zip_cons_cons, zip_ext f (by simpa using hl) fun i x y h1 h2 => h (i + 1) x y (by simpa using h1) (by simpa using h2), h 0 x y rfl rfl]
theorem cr_sortedT : CallR X (.builtin "sorted") (fun vs H Q => ∃ (a : Addr) (ps : List Addr) (ts : List (List Int)), vs = [V.ref a] ∧ SqL X.K H a (ps.map V.ref) ∧ ps.length = ts.length ∧ (∀ (i : Nat) p t, ps[i]? = some p → ts[i]? = some t → SqT X.K H p (t.map V.int)) ∧ (∀ t ∈ ts, t ≠ []) ∧
    ∀ (zs : List (Addr × List Int)) q, zs.Perm (ps.zip ts) → (zs.map (·.2)).Pairwise (fun x y => HT.lexLt y x = false) → H q = none → Q (.ref q) (upd H q (.lst (zs.map fun z => V.ref z.1)))) := by
  intro pins s σ H vs us Q I r ⟨a, ps, ts, e, h, hl, ht, hne, q⟩
  subst e
  obtain ⟨its, rv, p, hz⟩ := I.list h
  rw [Vals.ref1 r]
  have eits := vals_refs (us := its) rv
  subst eits
  have each : ∀ (i : Nat) p t, ps[i]? = some p → ts[i]? = some t → (∃ f, TupOf s.heap noTx (.ref p) f) ∧ G.tupKeyC s.heap noTx (.ref p) = some (t.map Sum.inl) := by
    intro i p t h1 h2
    obtain ⟨it, r2, p2, _⟩ := I.tuple (ht i p t h1 h2)
    obtain ⟨o, ho, hc, n, hd⟩ := p2
    have hk : G.tupKeyC s.heap noTx (.ref p) = some (t.map Sum.inl) := keyC_of ho hc hd (by simpa using items_tup 0 r2)
    refine ⟨?_, hk⟩
    have hn := hne t (List.mem_of_getElem? h2)
    cases t with
    | nil => exact absurd rfl hn
    | cons x t =>
      rw [List.map_cons] at r2
      cases r2 with
      | cons r1 r2 =>
        obtain ⟨tk, rfl⟩ := r1
        exact ⟨.int x tk, p, o, _, n, rfl, ho, hc, hd, by simp, fun _ => ⟨_, _, rfl⟩, fun e => absurd e Bool.false_ne_true⟩
  have idx : ∀ p ∈ ps, ∃ (i : Nat) (t : List Int), ps[i]? = some p ∧ ts[i]? = some t := fun p hp => by
    obtain ⟨i, hi⟩ := List.mem_iff_getElem?.mp hp
    have li := (List.getElem?_eq_some_iff.mp hi).1
    exact ⟨i, ts[i]'(by omega), hi, List.getElem?_eq_getElem (by omega)⟩
  obtain ⟨fs, hfs⟩ := tups_ex (h := s.heap) (sh := noTx) (vs := ps.map Value.ref) fun v hv => by
    obtain ⟨p, hp, rfl⟩ := List.mem_map.mp hv
    obtain ⟨i, t, h1, h2⟩ := idx p hp
    exact (each i p t h1 h2).1
  have keyed : ∀ v ∈ ps.map Value.ref, ∃ l : List Int, G.tupKeyC s.heap noTx v = some (l.map Sum.inl) := fun v hv => by
    obtain ⟨p, hp, rfl⟩ := List.mem_map.mp hv
    obtain ⟨i, t, h1, h2⟩ := idx p hp
    exact ⟨t, (each i p t h1 h2).2⟩
  refine G.sorted_tups (vs := ps.map Value.ref) (show s.heap.IsList a (ps.map Value.ref).toArray from p.isList) hfs (fun v hv => (keyed v hv).imp' _ fun _ e => e) (by rw [List.length_map]; simpa using hz) fun st' hp hs _ => ?_
  have hp' : (arrOf st').toList.Perm ((ps.map Value.ref).zip (ps.map Value.ref)) := by
    have e := Array.perm_iff_toList_perm.mp hp
    rw [PyProof.Rows.pairsOf_toList] at e
    exact e
  have mem : ∀ kd ∈ (arrOf st').toList, ∃ p ∈ ps, kd = (Value.ref p, Value.ref p) := fun kd hk => by
    have z := hp'.mem_iff.mp hk
    rw [List.zip_map', List.mem_map] at z
    obtain ⟨p, hp, e⟩ := z
    exact ⟨p, hp, e.symm⟩
  let kf : Value → List Int := fun v => inlL ((G.tupKeyC s.heap noTx v).getD [])
  have kfe : ∀ v ∈ ps.map Value.ref, G.tupKeyC s.heap noTx v = some ((kf v).map Sum.inl) := fun v hv => by
    obtain ⟨l, e⟩ := keyed v hv
    show _ = some ((inlL ((G.tupKeyC s.heap noTx v).getD [])).map Sum.inl)
    rw [e]
    show _ = some ((inlL (l.map Sum.inl)).map Sum.inl)
    rw [inlL_map]
  let zs : List (Addr × List Int) := (arrOf st').toList.map fun kd => (adV kd.2, kf kd.2)
  have zperm : zs.Perm (ps.zip ts) := by
    have e1 := hp'.map (fun kd : Value × Value => (adV kd.2, kf kd.2))
    rw [List.zip_map', List.map_map] at e1
    have e2 : ps.map (((fun kd : Value × Value => (adV kd.2, kf kd.2)) ∘ fun x => (Value.ref x, Value.ref x))) = ps.zip ts := by
      refine zip_ext (fun p => kf (.ref p)) hl fun i p t h1 h2 => ?_
      show inlL ((G.tupKeyC s.heap noTx (.ref p)).getD []) = t
      rw [(each i p t h1 h2).2]
      exact inlL_map t
    rw [e2] at e1
    exact e1
  have zpw : (zs.map (·.2)).Pairwise (fun x y => HT.lexLt y x = false) := by
    rw [List.map_map, List.pairwise_iff_getElem]
    intro i j hi hj hij
    rw [List.length_map, Array.length_toList] at hi hj
    have sz : (arrOf st').size = (PyProof.Rows.pairsOf (ps.map Value.ref)).size := hp.size_eq
    have z := hs i j (Nat.le_of_lt hij) (by rw [← sz]; exact hj)
    have key : ∀ (i : Nat) (hi : i < (arrOf st').size), KK (G.tupKindC s.heap noTx) (arrOf st') i = (kf ((arrOf st').toList[i]'(by simpa using hi)).2).map Sum.inl := fun i hi => by
      unfold KK
      rw [Array.getElem?_eq_getElem hi]
      obtain ⟨p, hp, e⟩ := mem ((arrOf st').toList[i]'(by simpa using hi)) (List.getElem_mem _)
      have e0 : (arrOf st')[i] = (Value.ref p, Value.ref p) := by rw [← e, Array.getElem_toList]
      have ek := kfe (.ref p) (List.mem_map_of_mem hp)
      rw [e]
      dsimp only
      rw [e0]
      show (G.tupKeyC s.heap noTx (.ref p)).getD [] = _
      rw [ek]
      rfl
    unfold KeyOrd.kle at z
    rw [key i hi, key j hj] at z
    have z2 : PyProof.Rows.lexLt itemOrd _ _ = false := z
    rw [lex_items] at z2
    rw [List.getElem_map, List.getElem_map]
    exact z2
  have outE : ((arrOf st').map (·.2)).toList = zs.map fun z => Value.ref z.1 := by
    rw [Array.toList_map, List.map_map]
    refine List.map_congr_left fun kd hk => ?_
    obtain ⟨p, hp, e⟩ := mem kd hk
    rw [e]
    rfl
  have vz : ∀ l : List (Addr × List Int), Vals (l.map fun z => V.ref z.1) (l.map fun z => Value.ref z.1) := fun l => by
    induction l with
    | nil => exact .nil
    | cons z l ih => exact .cons rfl ih
  obtain ⟨ep, he'⟩ := sortedAll_at s.heap (ps.map Value.ref) ((arrOf st').map (·.2))
  refine ⟨.ref _, upd H (s.heap.objs.size + 1) (.lst (zs.map fun z => V.ref z.1)), I.laid (t' := s.toks) (fun _ _ => sortedAll_old) (Nat.le_succ _) ⟨?_, ((arrOf st').map (·.2)).toList, ep, by rw [outE]; exact vz zs, by rw [Array.toArray_toList]; exact he'⟩, rfl, q zs _ zperm zpw (I.hok.fresh (Nat.le_succ _))⟩
  rw [List.length_map, zperm.length_eq, List.length_zip, ← hl, Nat.min_self]
  simpa using hz
theorem rvKey {K : PySem.W.Frag} {H : Hp} : ∀ k : Key, RV K H (kV k) (kD k)
  | .inl i => .int i
  | .inr s => .str s
theorem RKs.keysV {C : Cn} {H : Hp} : ∀ {l : List (Key × V)} {m : List (D × D)}, RKs C H l m → RVs C.K H (l.map fun kv => kV kv.1) (m.map (·.1))
  | _, _, .nil => .nil
  | _, _, .cons h r => .cons (rvKey _) r.keysV
theorem RKs.keysI {C : Cn} {H : Hp} : ∀ {l : List (Key × V)} {m : List (D × D)} {ks : List Int}, RKs C H l m → intsOf (m.map (·.1)) = some ks → l.map (·.1) = ks.map Sum.inl
  | _, _, ks, .nil, h => by cases h; rfl
  | _, _, ks, @RKs.cons _ _ k v d r r' h t, e => by
    cases k with
    | inl i =>
      have e : (intsOf (r'.map (·.1))).map (i :: ·) = some ks := e
      cases q : intsOf (r'.map (·.1)) with
      | none => rw [q] at e; cases e
      | some n =>
        rw [q] at e
        cases e
        rw [List.map_cons, t.keysI q]
        rfl
    | inr s => cases e
include hK hc hu
theorem blt_rule (b : Blt) : CallR X (bltVal b) (RLD C (wpBlt b)) := by
  intro pins s σ H vs us Q I r h
  obtain ⟨ds, S, rs, ok, h⟩ := h
  unfold wpBlt at h
  split at h
  · cases rs with
    | cons r1 rs =>
      cases rs
      split at h
      · cases r1
        exact call_len pins s σ H _ us Q I r ⟨_, _, rfl, ⟨h.1, rfl⟩, h.2.at ok (.int _)⟩
      · cases r1
        rcases h with ⟨xs, e, h⟩ | ⟨kvs, e, h⟩
        · obtain ⟨vs, e1, q⟩ := ok.lst e
          refine call_len pins s σ H _ us Q I r ⟨_, vs.length, rfl, .inl ⟨vs, .of e1, rfl⟩, ?_⟩
          rw [q.length]
          exact h.at ok (.int _)
        · obtain ⟨kvs', rd, rk⟩ := ok.rdic e
          rw [Vals.ref1 r]
          refine d_len I rd fun t s' I' => ⟨.int _, H, I', ⟨t, rfl⟩, ?_⟩
          rw [rk.length]
          exact h.at ok (.int _)
      · obtain ⟨xs, e, h⟩ := h
        obtain ⟨p, vs, rfl, q, z⟩ := sq_of ok r1 e
        refine call_len pins s σ H _ us Q I r ⟨_, vs.length, rfl, ?_, ?_⟩
        · rcases z with z | z
          · exact .inl ⟨vs, hK ▸ z, rfl⟩
          · exact .inr ⟨vs, hK ▸ z.1, rfl⟩
        · rw [q.length]
          exact h.at ok (.int _)
  · cases rs with
    | cons r1 rs =>
      cases rs
      split at h
      · cases r1
        exact call_int1 pins s σ H _ us Q I r (.inl ⟨_, rfl, h.at ok (.int _)⟩)
      · cases r1
        exact call_int1 pins s σ H _ us Q I r (.inr ⟨_, rfl, h.at ok (.int _)⟩)
      · cases r1
        obtain ⟨n, e1, e2, h⟩ := h
        exact call_int_str pins s σ H _ us Q I r ⟨_, n, rfl, e1, e2, h.at ok (.int _)⟩
      · exact h.elim
  · cases rs with
    | cons r1 rs =>
      cases rs with
      | cons r2 rs =>
        cases rs; cases r1; cases r2
        exact call_max2 hc pins s σ H _ us Q I r ⟨_, _, rfl, h.at ok (.int _)⟩
  · cases rs with
    | cons r1 rs =>
      cases rs with
      | cons r2 rs =>
        cases rs; cases r1; cases r2
        exact call_min2 hc pins s σ H _ us Q I r ⟨_, _, rfl, h.at ok (.int _)⟩
  · obtain ⟨xs, ns, e, e2, hne, h⟩ := h
    cases rs with
    | cons r1 rs =>
      cases rs
      obtain ⟨p, vs, rfl, q, z⟩ := sq_of ok r1 e
      cases q.ints e2
      refine cr_maxA hc hu pins s σ H _ us Q I r ⟨_, ns, rfl, ?_, hne, fun m h1 h2 => (h m h1 h2).at ok (.int _)⟩
      rcases z with z | z
      · exact .inl (hK ▸ z)
      · exact .inr (hK ▸ z.1)
  · cases rs with
    | cons r1 rs =>
      cases rs
      cases r1
      rcases h with ⟨xs, ns, e, e2, hne, h⟩ | ⟨xs, ts, e, e2, hne, h⟩
      · obtain ⟨vs, e1, q⟩ := ok.lst e
        cases q.ints e2
        exact cr_minA hc hu pins s σ H _ us Q I r ⟨_, ns, rfl, .inl (.of e1), hne, fun m h1 h2 => (h m h1 h2).at ok (.int _)⟩
      · obtain ⟨vs, e1, q⟩ := ok.lst e
        obtain ⟨ps, e3, e4, e5, e6⟩ := tups_get e2 q
        subst e3
        refine cr_minT hc hu pins s σ H _ us Q I r ⟨_, ps, ts, rfl, .of e1, e4, fun i p t h1 h2 => hK ▸ e5 i p t h1 h2, hne, fun i p t h1 h2 h3 => (h t (List.mem_of_getElem? h2) h3).at ok (.tup (e5 i p t h1 h2) RVs.ofInts)⟩
  · obtain ⟨xs, ns, e, e2, hne, h⟩ := h
    cases rs with
    | cons r1 rs =>
      cases rs
      obtain ⟨p, vs, rfl, q, z⟩ := sq_of ok r1 e
      cases q.ints e2
      refine cr_minA hc hu pins s σ H _ us Q I r ⟨_, ns, rfl, ?_, hne, fun m h1 h2 => (h m h1 h2).at ok (.int _)⟩
      rcases z with z | z
      · exact .inl (hK ▸ z)
      · exact .inr (hK ▸ z.1)
  · cases rs with
    | cons r1 rs =>
      cases rs; cases r1
      exact call_abs pins s σ H _ us Q I r ⟨_, rfl, h.at ok (.int _)⟩
  · cases rs with
    | cons r1 rs =>
      cases rs; cases r1
      exact call_str_int pins s σ H _ us Q I r ⟨_, rfl, h.1, h.2.at ok (.str _)⟩
  · cases rs with
    | cons r1 rs =>
      cases rs
      cases r1
      rcases h with ⟨xs, e, h⟩ | ⟨kvs, e, h⟩
      · obtain ⟨vs, e1, q⟩ := ok.lst e
        exact call_list_of pins s σ H _ us Q I r ⟨_, vs, rfl, .inl (.of e1), fun l hl => QV.new h ok q hl⟩
      · obtain ⟨kvs', e1, rk⟩ := ok.dic e
        exact call_list_dK hc pins s σ H _ us Q I r ⟨_, kvs', rfl, e1, fun l hl => QV.new h ok rk.keysV hl⟩
  · obtain ⟨xs, e, h⟩ := h
    cases rs with
    | cons r1 rs =>
      cases rs
      obtain ⟨p, vs, rfl, q, z⟩ := sq_of ok r1 e
      refine call_list_of pins s σ H _ us Q I r ⟨_, vs, rfl, ?_, fun l hl => QV.new h ok q hl⟩
      rcases z with z | z
      · exact .inl (hK ▸ z)
      · exact .inr (hK ▸ z.1)
  · obtain ⟨xs, e, h⟩ := h
    cases rs with
    | cons r1 rs =>
      cases rs
      obtain ⟨p, vs, rfl, q, z⟩ := sq_of ok r1 e
      refine call_tuple_of pins s σ H _ us Q I r ⟨_, vs, rfl, ?_⟩
      rcases z with z | z
      · exact .inl ⟨hK ▸ z, fun l hl => h.tup ok q hl⟩
      · obtain ⟨z, rfl⟩ := z
        exact .inr ⟨hK ▸ z, h.at ok r1⟩
  · cases rs with
    | cons r1 rs =>
      cases rs; cases r1
      rcases h with ⟨xs, ns, e, e2, h⟩ | ⟨kvs, ks, e, e2, hl, h⟩ | ⟨xs, ts, e, e2, hne, h⟩
      · obtain ⟨vs, e1, q⟩ := ok.lst e
        cases q.ints e2
        exact cr_sortedI pins s σ H _ us Q I r ⟨_, ns, rfl, .of e1, fun ns' p h1 h2 hp => QV.new (fun p hp => h ns' p h1 h2 hp) ok RVs.ofInts hp⟩
      · obtain ⟨kvs', rd, rk⟩ := ok.rdic e
        exact call_sortedDI hc pins s σ H _ us Q I r ⟨_, kvs', ks, rfl, rd, rk.keysI e2, hl, fun ys p h1 h2 hp => QV.new (fun p hp => h ys p h1 h2 hp) ok RVs.ofInts hp⟩
      · obtain ⟨vs, e1, q⟩ := ok.lst e
        obtain ⟨ps, evs, hl, htt, exs⟩ := tups_get e2 q
        rw [evs] at e1
        refine cr_sortedT pins s σ H _ us Q I r ⟨_, ps, ts, rfl, .of e1, hl, fun i p t h1 h2 => hK ▸ htt i p t h1 h2, hne, fun zs p h1 h2 hp => ?_⟩
        have pm : (zs.map (·.2)).Perm ts := by
          have z := h1.map (·.2)
          rw [List.map_snd_zip (by omega)] at z
          exact z
        have rz : ∀ l : List (Addr × List Int), (∀ z ∈ l, z ∈ ps.zip ts) → RVs C.K H (l.map fun z => V.ref z.1) ((l.map (·.2)).map fun t => D.tup (t.map .int)) := by
          intro l
          induction l with
          | nil => intro _; exact .nil
          | cons z l ih =>
            intro hz
            obtain ⟨i, hi⟩ := List.mem_iff_getElem?.mp (hz z List.mem_cons_self)
            rw [List.getElem?_zip_eq_some] at hi
            exact .cons (.tup (htt i z.1 z.2 hi.1 hi.2) RVs.ofInts) (ih fun y hy => hz y (List.mem_cons_of_mem _ hy))
        exact QV.new (fun p hp => h (zs.map (·.2)) p pm h2 hp) ok (rz zs fun z hz => h1.mem_iff.mp hz) hp
  · obtain ⟨xs, ns, e, e2, h⟩ := h
    cases rs with
    | cons r1 rs =>
      cases rs
      obtain ⟨p, vs, rfl, q, z⟩ := sq_of ok r1 e
      cases q.ints e2
      refine cr_sumA hc pins s σ H _ us Q I r ⟨_, ns, rfl, ?_, h.at ok (.int _)⟩
      rcases z with z | z
      · exact .inl (hK ▸ z)
      · exact .inr (hK ▸ z.1)
  · obtain ⟨xs, ns, e, e2, h⟩ := h
    cases rs with
    | cons r1 rs =>
      cases rs; cases r1
      obtain ⟨vs, e1, q⟩ := ok.lst e
      cases q.bls e2
      exact cr_all hc pins s σ H _ us Q I r ⟨_, ns, rfl, .of e1, h.at ok (.bl _)⟩
  · obtain ⟨xs, ns, e, e2, h⟩ := h
    cases rs with
    | cons r1 rs =>
      cases rs; cases r1
      obtain ⟨vs, e1, q⟩ := ok.lst e
      cases q.bls e2
      exact cr_any hc pins s σ H _ us Q I r ⟨_, ns, rfl, .of e1, h.at ok (.bl _)⟩
  · exact h.elim
end
/-! ### isinstance -/
def Kd.nm : Kd → String
  | .non => "NoneType"
  | .bl => "bool"
  | .int => "int"
  | .str => "str"
  | .tup => "tuple"
  | .lst => "list"
  | .dic => "dict"
def Ty.nm : Ty → Option String
  | .int => some "int"
  | .bool => some "bool"
  | .str => some "str"
  | .list => some "list"
  | .tuple => some "tuple"
  | .dict => some "dict"
  | .cls _ => none
theorem kd_kit (k : Kd) (t : Ty) (b : Bool) (n : String) (h : kdTy k t = some b) (hn : t.nm = some n) : kitB k.nm n = some b := by
  cases k <;> cases t <;> cases h <;> cases hn <;> decide +kernel
theorem kd_ty {C : Cn} {H : Hp} {S : Store} (ok : SOk C H S) {v : V} {d : D} {k : Kd} (r : RV C.K H v d) (h : kdOf S d = some k) : TyX C.K H v (.type k.nm) := by
  cases r with
  | non => cases h; exact .base .non
  | bl b => cases h; exact .base (.bl b)
  | int b => cases h; exact .base (.int b)
  | str b => cases h; exact .base (.str b)
  | tup t q =>
    cases h
    rcases t with (t | ⟨o, t⟩) | ⟨o, its, n, t, c, _⟩
    · exact .base (.tup t)
    · exact .fTuple t
    · exact .kTuple t c
  | rl t q =>
    cases h
    rcases t with ⟨o, t⟩ | ⟨o, its, n, t, c, _⟩
    · exact .base (.frz t)
    · exact .kList t c
  | ref a =>
    simp only [kdOf, Store.rd] at h
    cases e : S a with
    | none => rw [e] at h; cases h
    | some c =>
      rw [e] at h
      cases c with
      | lst xs =>
        cases h
        obtain ⟨vs, e1, _⟩ := ok.lst e
        exact .base (.lst e1)
      | dic xs =>
        cases h
        obtain ⟨vs, e1, _⟩ := ok.dic e
        exact .base (.dK e1)
      | ins _ _ => cases h
      | fz c =>
        cases c with
        | lst xs => exact (ok a _ e).elim
        | dic xs =>
          cases h
          obtain ⟨o, vs, e1, _⟩ := ok a _ e
          exact .fDict e1
        | ins _ _ => exact (ok a _ e).elim
        | fz _ => exact (ok a _ e).elim
def tysV : List Ty → Option (List V)
  | [] => some []
  | t :: ts => match t.nm, tysV ts with
    | some n, some r => some (.ty n :: r)
    | _, _ => none
theorem tysV_ok {K : PySem.W.Frag} {k : Kd} : ∀ {ts : List Ty} {vs : List V} {b : Bool}, tysV ts = some vs → isTys k ts = some b → ∃ us, Paired ClsV vs us ∧ PySem.W.kitAny K (.type k.nm) us = some b
  | [], vs, b, h, e => by
    cases h; cases e
    exact ⟨[], .nil, rfl⟩
  | t :: ts, vs, b, h, e => by
    unfold tysV at h
    unfold isTys at e
    cases hn : t.nm with
    | none => rw [hn] at h; cases h
    | some n =>
      cases hr : tysV ts with
      | none => rw [hn, hr] at h; cases h
      | some r =>
        rw [hn, hr] at h
        cases h
        cases h1 : kdTy k t with
        | none => rw [h1] at e; cases e
        | some b1 =>
          cases h2 : isTys k ts with
          | none => rw [h1, h2] at e; cases e
          | some b2 =>
            rw [h1, h2] at e
            cases e
            obtain ⟨us, p, q⟩ := tysV_ok (K := K) hr h2
            refine ⟨.type n :: us, .cons (.ty n) p, kitAny_cons (kit_ty (kd_kit k t b1 n h1 hn)) (fun z => ?_) fun z => ?_⟩
            · rw [q, z]
              rfl
            · rw [z]
              rfl
end SW
/-! SW, part F: the meaning over the layer; one lemma a construct. -/
namespace SW
open PySem PySem.Spec PyProof.Rows L2
abbrev St2 := L2.St
abbrev WE := Env → Store → PQ → PX → Prop
abbrev WA := Env → Store → (List D → Store → Prop) → PX → Prop
def Rl (C : Cn) (σ : St2) (H : Hp) (env : Env) (S : Store) : Prop :=
  σ.length = env.length ∧ (∀ (i : Nat) (d : D), env[i]? = some (some d) → ∃ v, σ[i]? = some (some v) ∧ RV C.K H v d) ∧ SOk C H S
theorem Rl.ext {C : Cn} {σ : St2} {H H' : Hp} {env : Env} {S S' : Store} (r : Rl C σ H env S) (x : Ext C.K H H') (ok : SOk C H' S') : Rl C σ H' env S' :=
  ⟨r.1, fun i d e => let ⟨v, a, b⟩ := r.2.1 i d e; ⟨v, a, b.ext x⟩, ok⟩
theorem Rl.set {C : Cn} {σ : St2} {H : Hp} {env : Env} {S : Store} {v : V} {d : D} (r : Rl C σ H env S) (i : Nat) (q : RV C.K H v d) : Rl C (σ.set i (some v)) H (env.set i (some d)) S := by
  refine ⟨by rw [List.length_set, List.length_set]; exact r.1, fun j e hj => ?_, r.2.2⟩
  by_cases hij : i = j
  · subst hij
    by_cases hl : i < env.length
    · rw [List.getElem?_set_self hl] at hj
      cases hj
      exact ⟨v, List.getElem?_set_self (r.1 ▸ hl), q⟩
    · rw [List.getElem?_eq_none (by rw [List.length_set]; omega)] at hj
      cases hj
  · rw [List.getElem?_set_ne hij] at hj
    obtain ⟨w, a, b⟩ := r.2.1 j e hj
    exact ⟨w, (List.getElem?_set_ne hij).trans a, b⟩
def XW (C : Cn) (W : WX) (σ : St2) (H : Hp) : PX := fun c S' => ∀ H', Ext C.K H H' → SOk C H' S' → W (.ref (C.ca c)) none σ H'
theorem XW.ext {C : Cn} {W : WX} {σ : St2} {H H' : Hp} (x : Ext C.K H H') : ∀ c S, XW C W σ H c S → XW C W σ H' c S := fun _ _ h H2 x2 ok => h H2 (x.trans x2) ok
theorem QV.ext {C : Cn} {H H' : Hp} {Q : VK} (x : Ext C.K H H') : ∀ d S, QV C H Q d S → QV C H' Q d S := fun _ _ h v H2 x2 ok r => h v H2 (x.trans x2) ok r
def QB (C : Cn) (H : Hp) (Q : Bool → Hp → Prop) : PQ := fun d S' => ∃ b, d = .bl b ∧ ∀ H', Ext C.K H H' → SOk C H' S' → Q b H'
theorem QB.ext {C : Cn} {H H' : Hp} {Q : Bool → Hp → Prop} (x : Ext C.K H H') : ∀ d S, QB C H Q d S → QB C H' Q d S := fun _ _ ⟨b, e, h⟩ => ⟨b, e, fun H2 x2 ok => h H2 (x.trans x2) ok⟩
def QVs (C : Cn) (H : Hp) (Q : List V → Hp → Prop) : List D → Store → Prop := fun ds S' => ∀ vs H', Ext C.K H H' → SOk C H' S' → RVs C.K H' vs ds → Q vs H'
theorem QVs.ext {C : Cn} {H H' : Hp} {Q : List V → Hp → Prop} (x : Ext C.K H H') : ∀ d S, QVs C H Q d S → QVs C H' Q d S := fun _ _ h v H2 x2 ok r => h v H2 (x.trans x2) ok r
def LE (C : Cn) (W : WX) (w : WE) : TE := fun σ H Q => ∃ env S, Rl C σ H env S ∧ w env S (QV C H Q) (XW C W σ H)
def LT (C : Cn) (W : WX) (w : WE) : TT := fun σ H Q => ∃ env S, Rl C σ H env S ∧ w env S (QB C H Q) (XW C W σ H)
def LA (C : Cn) (W : WX) (w : WA) : TA := fun σ H Q => ∃ env S, Rl C σ H env S ∧ w env S (QVs C H Q) (XW C W σ H)
def MonoE (w : WE) : Prop := ∀ env S Q Q' E E', (∀ d S, Q d S → Q' d S) → (∀ c S, E c S → E' c S) → w env S Q E → w env S Q' E'
def MonoA (w : WA) : Prop := ∀ env S Q Q' E E', (∀ d S, Q d S → Q' d S) → (∀ c S, E c S → E' c S) → w env S Q E → w env S Q' E'
section
variable {C : Cn} {W : WX} {σ : St2} {H : Hp} {env : Env} {S : Store}
theorem LE.use {w : WE} (m : MonoE w) {k : PQ} {E : PX} {Q : VK} (r : Rl C σ H env S) (h : w env S k E) (hE : ∀ c S', E c S' → XW C W σ H c S')
    (hk : ∀ d S' v H', Ext C.K H H' → Rl C σ H' env S' → RV C.K H' v d → k d S' → Q v H') : LE C W w σ H Q :=
  ⟨env, S, r, m _ _ _ _ _ _ (fun d S' q v H' x ok rv => hk d S' v H' x (r.ext x ok) rv q) hE h⟩
theorem LA.use {w : WA} (m : MonoA w) {k : List D → Store → Prop} {E : PX} {Q : List V → Hp → Prop} (r : Rl C σ H env S) (h : w env S k E) (hE : ∀ c S', E c S' → XW C W σ H c S')
    (hk : ∀ d S' v H', Ext C.K H H' → Rl C σ H' env S' → RVs C.K H' v d → k d S' → Q v H') : LA C W w σ H Q :=
  ⟨env, S, r, m _ _ _ _ _ _ (fun d S' q v H' x ok rv => hk d S' v H' x (r.ext x ok) rv q) hE h⟩
theorem LT.use {w : WE} (m : MonoE w) {k : PQ} {E : PX} {Q : Bool → Hp → Prop} (r : Rl C σ H env S) (h : w env S k E) (hE : ∀ c S', E c S' → XW C W σ H c S')
    (hk : ∀ d S', k d S' → ∃ b, d = .bl b ∧ ∀ H', Ext C.K H H' → Rl C σ H' env S' → Q b H') : LT C W w σ H Q :=
  ⟨env, S, r, m _ _ _ _ _ _ (fun d S' q => let ⟨b, e, z⟩ := hk d S' q; ⟨b, e, fun H' x ok => z H' x (r.ext x ok)⟩) hE h⟩
end
theorem _root_.L2.PE.mono {X : Cx} {e : Expr} {t t' : TE} (h : PE X e t) (m : ∀ σ H Q, t' σ H Q → t σ H Q) : PE X e t' := ⟨fun pins s σ H Q I q => h.run pins s σ H Q I (m σ H Q q)⟩
theorem _root_.L2.PT.mono {X : Cx} {e : Expr} {t t' : TT} (h : PT X e t) (m : ∀ σ H Q, t' σ H Q → t σ H Q) : PT X e t' := ⟨fun pins s σ H Q I q => h.run pins s σ H Q I (m σ H Q q)⟩
theorem _root_.L2.PA.mono {X : Cx} {e : List Expr} {t t' : TA} (h : PA X e t) (m : ∀ σ H Q, t' σ H Q → t σ H Q) : PA X e t' := ⟨fun pos pins s σ H Q I q => h.run pos pins s σ H Q I (m σ H Q q)⟩
/-- an expression whose truth is asked the plain way -/
theorem plain_test {X : Cx} {C : Cn} {W : WX} {e : Expr} {w : WE} (h : PE X e (LE C W w)) (m : MonoE w) (hp : ∀ whole, isTrue e X.env whole = (do let v ← whole; standAt e.pos; holding [v] (truthy v))) : PT X e (LT C W w) := by
  refine (pt_val h hp).mono fun σ H Q ⟨env, S, r, q⟩ => ?_
  refine LE.use m r q (fun _ _ z => z) fun d S' v H' x r' rv ⟨b, e1, k⟩ => ?_
  subst e1
  cases rv
  exact ⟨b, rfl, k H' x r'.2.2⟩
section
variable {X : Cx} {C : Cn} {W : WX} (hK : X.K = C.K)
theorem s_var {i : Nat} {x : Str} {pos : Pos} (h : PE X (.Name x pos) (tVar i)) : PE X (.Name x pos) (LE C W fun env S Q _ => ∃ d, env[i]? = some (some d) ∧ Q d S) :=
  h.mono fun σ H Q ⟨env, S, r, d, e, q⟩ => by
    obtain ⟨v, a, b⟩ := r.2.1 i d e
    exact ⟨v, a, q.at r.2.2 b⟩
theorem s_cst {e : Expr} {v : V} {d : D} (h : PE X e (tC v)) (r : ∀ H, RV C.K H v d) : PE X e (LE C W fun _ S Q _ => Q d S) :=
  h.mono fun σ H Q ⟨env, S, rl, q⟩ => q.at rl.2.2 (r H)
theorem s_bin {a b : Expr} {op : Operator} {pos : Pos} {o : Bop} {wa wb : WE} (ho : OpR X (binaryOp op) (R2D C (wpBin o))) (ha : PE X a (LE C W wa)) (hb : PE X b (LE C W wb)) (ma : MonoE wa) (mb : MonoE wb) :
    PE X (.BinOp a op b pos) (LE C W fun env S Q E => wa env S (fun x S1 => wb env S1 (fun y S2 => wpBin o x y S2 Q) E) E) :=
  (pe_op ho ha hb).mono fun σ H Q ⟨env, S, r, q⟩ => LE.use ma r q (fun _ _ z => z) fun d1 S1 v1 H1 x1 r1 q1 k1 =>
    LE.use mb r1 k1 (XW.ext x1) fun d2 S2 v2 H2 x2 r2 q2 k2 => ⟨d1, d2, S2, q1.ext x2, q2, r2.2.2, wpBin_mono (QV.ext (x1.trans x2)) k2⟩
theorem s_cmp {a b : Expr} {op : CmpOp} {pos : Pos} {o : Cop} {wa wb : WE} (ho : OpR X (compareOp op) (CopR C o)) (ha : PE X a (LE C W wa)) (hb : PE X b (LE C W wb)) (ma : MonoE wa) (mb : MonoE wb) (hm : behindInMarks op b = false) :
    PE X (.Compare a [op] [b] pos) (LE C W fun env S Q E => wa env S (fun x S1 => wb env S1 (fun y S2 => wpCop o x y S2 fun c => Q (.bl c) S2) E) E) :=
  (pe_cmpR ho ha hb hm).mono fun σ H Q ⟨env, S, r, q⟩ => LE.use ma r q (fun _ _ z => z) fun d1 S1 v1 H1 x1 r1 q1 k1 =>
    LE.use mb r1 k1 (XW.ext x1) fun d2 S2 v2 H2 x2 r2 q2 k2 => ⟨d1, d2, S2, q1.ext x2, q2, r2.2.2, wpCop_mono (fun c z => z.ext (x1.trans x2)) k2⟩
theorem s_cmpT {a b : Expr} {op : CmpOp} {pos : Pos} {o : Cop} {wa wb : WE} (ho : OpR X (compareOp op) (CopR C o)) (ha : PE X a (LE C W wa)) (hb : PE X b (LE C W wb)) (ma : MonoE wa) (mb : MonoE wb) (hm : behindInMarks op b = false) :
    PT X (.Compare a [op] [b] pos) (LT C W fun env S Q E => wa env S (fun x S1 => wb env S1 (fun y S2 => wpCop o x y S2 fun c => Q (.bl c) S2) E) E) :=
  (pt_cmpR ho ha hb hm).mono fun σ H Q ⟨env, S, r, q⟩ => LE.use ma r q (fun _ _ z => z) fun d1 S1 v1 H1 x1 r1 q1 k1 =>
    LE.use mb r1 k1 (XW.ext x1) fun d2 S2 v2 H2 x2 r2 q2 k2 => ⟨d1, d2, S2, q1.ext x2, q2, r2.2.2, wpCop_mono (fun c z v H' x ok rv => by
      obtain ⟨b, e, z⟩ := z
      cases e
      cases rv
      exact ⟨_, rfl, z H' (x1.trans (x2.trans x)) ok⟩) k2⟩
theorem s_chn {a b c : Expr} {op op' : CmpOp} {pos : Pos} {o o' : Cop} {wa wb wc : WE} (ho : OpR X (compareOp op) (CopR C o)) (ho' : OpR X (compareOp op') (CopR C o')) (ha : PE X a (LE C W wa)) (hb : PE X b (LE C W wb)) (hc : PE X c (LE C W wc))
    (ma : MonoE wa) (mb : MonoE wb) (mc : MonoE wc) (hm : lastMarks [op, op'] [b, c] = false) : PE X (.Compare a [op, op'] [b, c] pos) (LE C W fun env S Q E => wa env S (fun x S1 => wb env S1 (fun y S2 => wpCop o x y S2 fun k => ∃ c', D.bl k = .bl c' ∧ if c' = true then
      wc env S2 (fun z S3 => wpCop o' y z S3 fun k' => Q (.bl k') S3) E else Q (.bl false) S2) E) E) :=
  (pe_chain ho ho' ha hb hc hm).mono fun σ H Q ⟨env, S, r, q⟩ => LE.use ma r q (fun _ _ z => z) fun d1 S1 v1 H1 x1 r1 q1 k1 =>
    LE.use mb r1 k1 (XW.ext x1) fun d2 S2 v2 H2 x2 r2 q2 k2 => ⟨d1, d2, S2, q1.ext x2, q2, r2.2.2, wpCop_mono (fun k z v H' x ok rv => by
      cases rv
      obtain ⟨k', ek, z⟩ := z
      cases ek
      refine ⟨k, rfl, ?_⟩
      have r3 := r2.ext x ok
      cases k with
      | true =>
        rw [if_pos rfl] at z ⊢
        refine LE.use mc r3 z (XW.ext (x1.trans (x2.trans x))) fun d3 S3 v3 H3 x3 r4 q3 k3 => ⟨d2, d3, S3, q2.ext (x.trans x3), q3, r4.2.2, wpCop_mono (fun k' z => z.ext (x1.trans (x2.trans (x.trans x3)))) k3⟩
      | false =>
        rw [if_neg Bool.false_ne_true] at z ⊢
        exact (QV.ext (x1.trans (x2.trans x)) _ _ z).at ok (.bl _)) k2⟩
theorem s_chnT {a b c : Expr} {op op' : CmpOp} {pos : Pos} {o o' : Cop} {wa wb wc : WE} (ho : OpR X (compareOp op) (CopR C o)) (ho' : OpR X (compareOp op') (CopR C o')) (ha : PE X a (LE C W wa)) (hb : PE X b (LE C W wb)) (hc : PE X c (LE C W wc))
    (ma : MonoE wa) (mb : MonoE wb) (mc : MonoE wc) (hm : lastMarks [op, op'] [b, c] = false) : PT X (.Compare a [op, op'] [b, c] pos) (LT C W fun env S Q E => wa env S (fun x S1 => wb env S1 (fun y S2 => wpCop o x y S2 fun k => ∃ c', D.bl k = .bl c' ∧ if c' = true then
      wc env S2 (fun z S3 => wpCop o' y z S3 fun k' => Q (.bl k') S3) E else Q (.bl false) S2) E) E) :=
  (pt_chain ho ho' ha hb hc hm).mono fun σ H Q ⟨env, S, r, q⟩ => LE.use ma r q (fun _ _ z => z) fun d1 S1 v1 H1 x1 r1 q1 k1 =>
    LE.use mb r1 k1 (XW.ext x1) fun d2 S2 v2 H2 x2 r2 q2 k2 => ⟨d1, d2, S2, q1.ext x2, q2, r2.2.2, wpCop_mono (fun k z v H' x ok rv => by
      cases rv
      obtain ⟨k', ek, z⟩ := z
      cases ek
      refine ⟨k, rfl, ?_⟩
      have r3 := r2.ext x ok
      cases k with
      | true =>
        rw [if_pos rfl] at z ⊢
        refine LE.use mc r3 z (XW.ext (x1.trans (x2.trans x))) fun d3 S3 v3 H3 x3 r4 q3 k3 => ⟨d2, d3, S3, q2.ext (x.trans x3), q3, r4.2.2, wpCop_mono (fun k' z v H' x' ok' rv => by
          obtain ⟨b, e, z⟩ := z
          cases e
          cases rv
          exact ⟨_, rfl, z H' (x1.trans (x2.trans (x.trans (x3.trans x')))) ok'⟩) k3⟩
      | false =>
        rw [if_neg Bool.false_ne_true] at z ⊢
        obtain ⟨b, e, z⟩ := z
        cases e
        exact ⟨_, rfl, z _ (x1.trans (x2.trans x)) ok⟩) k2⟩
theorem s_no {a : Expr} {pos : Pos} {wa : WE} (ha : PE X a (LE C W wa)) (ma : MonoE wa) : PE X (.UnaryOp .Not a pos) (LE C W fun env S Q E => wa env S (fun x S1 => ∃ c, x = .bl c ∧ Q (.bl (!c)) S1) E) :=
  (pe_not ha).mono fun σ H Q ⟨env, S, r, q⟩ => LE.use ma r q (fun _ _ z => z) fun d1 S1 v1 H1 x1 r1 q1 ⟨c, e, k⟩ => by
    subst e
    cases q1
    exact ⟨c, rfl, (QV.ext x1 _ _ k).at r1.2.2 (.bl _)⟩
theorem s_noT {a : Expr} {pos : Pos} {wa : WE} (ha : PT X a (LT C W wa)) (ma : MonoE wa) : PT X (.UnaryOp .Not a pos) (LT C W fun env S Q E => wa env S (fun x S1 => ∃ c, x = .bl c ∧ Q (.bl (!c)) S1) E) :=
  (pt_not ha).mono fun σ H Q ⟨env, S, r, q⟩ => LT.use ma r q (fun _ _ z => z) fun d1 S1 ⟨c, e, b, e2, k⟩ => by
    cases e2
    exact ⟨c, e, fun H' x r' => k H' x r'.2.2⟩
theorem s_neg {a : Expr} {pos : Pos} {wa : WE} (ha : PE X a (LE C W wa)) (ma : MonoE wa) : PE X (.UnaryOp .USub a pos) (LE C W fun env S Q E => wa env S (fun x S1 => ∃ i, x = .int i ∧ Q (.int (-i)) S1) E) :=
  (pe_un un_neg ha).mono fun σ H Q ⟨env, S, r, q⟩ => LE.use ma r q (fun _ _ z => z) fun d1 S1 v1 H1 x1 r1 q1 ⟨c, e, k⟩ => by
    subst e
    cases q1
    exact ⟨c, rfl, (QV.ext x1 _ _ k).at r1.2.2 (.int _)⟩
theorem s_an {a b : Expr} {rest : List Expr} {pos : Pos} {wa wb : WE} (ha : PE X a (LE C W wa)) (hb : PE X (.BoolOp .And (b :: rest) pos) (LE C W wb)) (ma : MonoE wa) (mb : MonoE wb) :
    PE X (.BoolOp .And (a :: b :: rest) pos) (LE C W fun env S Q E => wa env S (fun x S1 => ∃ c, x = .bl c ∧ if c = true then wb env S1 Q E else Q (.bl false) S1) E) :=
  (pe_and ha hb).mono fun σ H Q ⟨env, S, r, q⟩ => LE.use ma r q (fun _ _ z => z) fun d1 S1 v1 H1 x1 r1 q1 ⟨c, e, k⟩ => by
    subst e
    cases q1
    refine ⟨c, rfl, ?_⟩
    cases c with
    | true => exact ⟨env, S1, r1, mb _ _ _ _ _ _ (QV.ext x1) (XW.ext x1) k⟩
    | false => exact (QV.ext x1 _ _ k).at r1.2.2 (.bl _)
theorem s_or {a b : Expr} {rest : List Expr} {pos : Pos} {wa wb : WE} (ha : PE X a (LE C W wa)) (hb : PE X (.BoolOp .Or (b :: rest) pos) (LE C W wb)) (ma : MonoE wa) (mb : MonoE wb) :
    PE X (.BoolOp .Or (a :: b :: rest) pos) (LE C W fun env S Q E => wa env S (fun x S1 => ∃ c, x = .bl c ∧ if c = true then Q (.bl true) S1 else wb env S1 Q E) E) :=
  (pe_or ha hb).mono fun σ H Q ⟨env, S, r, q⟩ => LE.use ma r q (fun _ _ z => z) fun d1 S1 v1 H1 x1 r1 q1 ⟨c, e, k⟩ => by
    subst e
    cases q1
    refine ⟨c, rfl, ?_⟩
    cases c with
    | false => exact ⟨env, S1, r1, mb _ _ _ _ _ _ (QV.ext x1) (XW.ext x1) k⟩
    | true => exact (QV.ext x1 _ _ k).at r1.2.2 (.bl _)
theorem s_anW {a b : Expr} {rest : List Expr} {pos : Pos} {wa wb : WE} (ha : PT X a (LT C W wa)) (hb : PW X (.BoolOp .And (b :: rest) pos) (LT C W wb)) (ma : MonoE wa) (mb : MonoE wb) :
    PW X (.BoolOp .And (a :: b :: rest) pos) (LT C W fun env S Q E => wa env S (fun x S1 => ∃ c, x = .bl c ∧ if c = true then wb env S1 Q E else Q (.bl false) S1) E) :=
  ⟨fun wh pins s σ H Q I ⟨env, S, r, q⟩ => (pw_and ha hb).run wh pins s σ H Q I (LT.use ma r q (fun _ _ z => z) fun d1 S1 ⟨c, e, k⟩ => ⟨c, e, fun H1 x1 r1 => by
    cases c with
    | true => exact ⟨env, S1, r1, mb _ _ _ _ _ _ (QB.ext x1) (XW.ext x1) k⟩
    | false =>
      obtain ⟨b, e2, k⟩ := k
      cases e2
      exact k H1 x1 r1.2.2⟩)⟩
theorem s_orW {a b : Expr} {rest : List Expr} {pos : Pos} {wa wb : WE} (ha : PT X a (LT C W wa)) (hb : PW X (.BoolOp .Or (b :: rest) pos) (LT C W wb)) (ma : MonoE wa) (mb : MonoE wb) :
    PW X (.BoolOp .Or (a :: b :: rest) pos) (LT C W fun env S Q E => wa env S (fun x S1 => ∃ c, x = .bl c ∧ if c = true then Q (.bl true) S1 else wb env S1 Q E) E) :=
  ⟨fun wh pins s σ H Q I ⟨env, S, r, q⟩ => (pw_or ha hb).run wh pins s σ H Q I (LT.use ma r q (fun _ _ z => z) fun d1 S1 ⟨c, e, k⟩ => ⟨c, e, fun H1 x1 r1 => by
    cases c with
    | false => exact ⟨env, S1, r1, mb _ _ _ _ _ _ (QB.ext x1) (XW.ext x1) k⟩
    | true =>
      obtain ⟨b, e2, k⟩ := k
      cases e2
      exact k H1 x1 r1.2.2⟩)⟩
theorem s_ife {t a b : Expr} {pos : Pos} {wt wa wb : WE} (ht : PT X t (LT C W wt)) (ha : PE X a (LE C W wa)) (hb : PE X b (LE C W wb)) (mt : MonoE wt) (ma : MonoE wa) (mb : MonoE wb) :
    PE X (.IfExp t a b pos) (LE C W fun env S Q E => wt env S (fun x S1 => ∃ c, x = .bl c ∧ if c = true then wa env S1 Q E else wb env S1 Q E) E) :=
  (pe_ifExp ht ha hb).mono fun σ H Q ⟨env, S, r, q⟩ => LT.use mt r q (fun _ _ z => z) fun d1 S1 ⟨c, e, k⟩ => ⟨c, e, fun H1 x1 r1 => by
    cases c with
    | true => exact ⟨env, S1, r1, ma _ _ _ _ _ _ (QV.ext x1) (XW.ext x1) k⟩
    | false => exact ⟨env, S1, r1, mb _ _ _ _ _ _ (QV.ext x1) (XW.ext x1) k⟩⟩
theorem s_nil : PA X [] (LA C W fun _ S Q _ => Q [] S) := pa_nil.mono fun σ H Q ⟨env, S, r, q⟩ => q [] H Ext.refl r.2.2 .nil
theorem s_cons {e : Expr} {es : List Expr} {we : WE} {wes : WA} (he : PE X e (LE C W we)) (hes : PA X es (LA C W wes)) (me : MonoE we) (mes : MonoA wes) (hs : starEach (e :: es) X.env = (false, eval e X.env) :: starEach es X.env) :
    PA X (e :: es) (LA C W fun env S Q E => we env S (fun d S1 => wes env S1 (fun ds S2 => Q (d :: ds) S2) E) E) :=
  (pa_cons he hes hs).mono fun σ H Q ⟨env, S, r, q⟩ => LE.use me r q (fun _ _ z => z) fun d1 S1 v1 H1 x1 r1 q1 k1 =>
    LA.use mes r1 k1 (XW.ext x1) fun ds S2 vs H2 x2 r2 q2 k2 => k2 _ _ (x1.trans x2) r2.2.2 (.cons (q1.ext x2) q2)
theorem s_tup {es : List Expr} {k : Nat} {pos : Pos} {wes : WA} (h : PA X es (LA C W wes)) (m : MonoA wes) : PE X (.Tuple es k pos) (LE C W fun env S Q E => wes env S (fun ds S1 => ds.length ≤ sizeLine ∧ Q (.tup ds) S1) E) :=
  (pe_tup h).mono fun σ H Q ⟨env, S, r, q⟩ => LA.use m r q (fun _ _ z => z) fun ds S1 vs H1 x1 r1 q1 k1 => ⟨q1.length ▸ k1.1, fun p hp => (QV.ext x1 _ _ k1.2).tup r1.2.2 q1 hp⟩
theorem s_lst {es : List Expr} {pos : Pos} {wes : WA} (h : PA X es (LA C W wes)) (m : MonoA wes) : PE X (.List es pos) (LE C W fun env S Q E => wes env S (fun ds S1 => ds.length ≤ sizeLine ∧ ∀ p, S1 p = none → Q (.ref p) (S1.upd p (.lst ds))) E) :=
  (pe_lst h).mono fun σ H Q ⟨env, S, r, q⟩ => LA.use m r q (fun _ _ z => z) fun ds S1 vs H1 x1 r1 q1 k1 => ⟨q1.length ▸ k1.1, fun p hp => QV.new (fun p hp => QV.ext x1 _ _ (k1.2 p hp)) r1.2.2 q1 hp⟩
theorem s_dnew {pos : Pos} : PE X (.Dict [] [] pos) (LE C W fun _ S Q _ => ∀ p, S p = none → Q (.ref p) (S.upd p (.dic []))) :=
  pe_dnewK.mono fun σ H Q ⟨env, S, r, q⟩ p hp => q p (r.2.2.none_of hp) _ _ (Ext.new hp) (r.2.2.new hp ⟨[], upd_same, .nil⟩) (.ref p)
include hK in
theorem s_ix {a b : Expr} {pos : Pos} {wa wb : WE} (hu : X.A.units + 64 < cLine) (ha : PE X a (LE C W wa)) (hb : PE X b (LE C W wb)) (ma : MonoE wa) (mb : MonoE wb) (hs : PlainIx b) :
    PE X (.Subscript a b pos) (LE C W fun env S Q E => wa env S (fun x S1 => wb env S1 (fun y S2 => wpIx x y S2 fun d => Q d S2) E) E) :=
  (pe_ix (ixr hK hu) ha hb hs).mono fun σ H Q ⟨env, S, r, q⟩ => LE.use ma r q (fun _ _ z => z) fun d1 S1 v1 H1 x1 r1 q1 k1 =>
    LE.use mb r1 k1 (XW.ext x1) fun d2 S2 v2 H2 x2 r2 q2 k2 => ⟨d1, d2, S2, q1.ext x2, q2, r2.2.2, wpIx_mono (fun c z => z.ext (x1.trans x2)) k2⟩
def LO (C : Cn) (W : WX) (w : Env → Store → (Option Int → Store → Prop) → PX → Prop) : TO := fun σ H Q => ∃ env S, Rl C σ H env S ∧ w env S (fun o S' => ∀ H', Ext C.K H H' → SOk C H' S' → Q o H') (XW C W σ H)
theorem s_noO : PO X none (LO C W fun _ S Q _ => Q none S) := ⟨fun pins s σ H Q I ⟨env, S, r, q⟩ => po_none.run pins s σ H Q I (q H Ext.refl r.2.2)⟩
theorem s_someO {e : Expr} {we : WE} (he : PE X e (LE C W we)) (me : MonoE we) : PO X (some e) (LO C W fun env S Q E => we env S (fun d S1 => ∃ i, d = .int i ∧ Q (some i) S1) E) :=
  ⟨fun pins s σ H Q I ⟨env, S, r, q⟩ => (po_some he).run pins s σ H Q I (LE.use me r q (fun _ _ z => z) fun d S1 v1 H1 x1 r1 q1 ⟨i, e, k⟩ => by
    subst e
    cases q1
    exact ⟨i, rfl, k H1 x1 r1.2.2⟩)⟩
include hK in
theorem s_slc {a : Expr} {lo hi : Option Expr} {pos p2 : Pos} {wa : WE} {wl wh : Env → Store → (Option Int → Store → Prop) → PX → Prop} (hu : X.A.units + 64 < cLine) (ha : PE X a (LE C W wa)) (hl : PO X lo (LO C W wl)) (hh : PO X hi (LO C W wh)) (ma : MonoE wa)
    (ml : ∀ env S Q Q' E E', (∀ d S, Q d S → Q' d S) → (∀ c S, E c S → E' c S) → wl env S Q E → wl env S Q' E') (mh : ∀ env S Q Q' E E', (∀ d S, Q d S → Q' d S) → (∀ c S, E c S → E' c S) → wh env S Q E → wh env S Q' E') :
    PE X (.Subscript a (.Slice lo hi none p2) pos) (LE C W fun env S Q E => wa env S (fun x S1 => wl env S1 (fun l S2 => wh env S2 (fun h S3 => wpSl x l h S3 Q) E) E) E) :=
  (pe_slice (slr hK hu C rfl) ha hl hh).mono fun σ H Q ⟨env, S, r, q⟩ => LE.use ma r q (fun _ _ z => z) fun d1 S1 v1 H1 x1 r1 q1 k1 =>
    ⟨env, S1, r1, ml _ _ _ _ _ _ (fun o S2 k2 H2 x2 ok2 => ⟨env, S2, r1.ext x2 ok2, mh _ _ _ _ _ _ (fun o' S3 k3 H3 x3 ok3 => ⟨d1, S3, q1.ext (x2.trans x3), ok3, wpSl_mono (QV.ext (x1.trans (x2.trans x3))) k3⟩) (XW.ext (x1.trans x2)) k2⟩) (XW.ext x1) k1⟩
end
end SW
/-! SW, part G: fields, calls, methods. -/
namespace SW
open PySem PySem.Spec PyProof.Rows L2
/-- what is known of classes and names -/
structure Fcts (C : Cn) : Prop where
  inj : ∀ f g, C.isF f → C.isF g → C.nm f = C.nm g → f = g
  cls : ∀ c, C.isC c → Cls C.K (C.ca c)
  noat : ∀ c f, C.isC c → C.isF f → NoAttr C.K (C.ca c) (C.nm f)
section
variable {C : Cn} {H : Hp} (F : Fcts C)
include F
theorem RFs.get {f : Nat} (hf : C.isF f) : ∀ {l : List (Str × V)} {m : List (Nat × D)} {d : D}, RFs C H l m → m.lookup f = some d → ∃ v, l.lookup (C.nm f) = some v ∧ RV C.K H v d
  | _, _, _, .nil, h => by cases h
  | _, _, d, .cons (f := g) (v := v) hg q r, h => by
    rw [List.lookup_cons] at h ⊢
    by_cases e : f = g
    · subst e
      rw [beq_self_eq_true] at h ⊢
      cases h
      exact ⟨v, rfl, q⟩
    · rw [beq_eq_false_iff_ne.mpr e] at h
      rw [beq_eq_false_iff_ne.mpr fun z => e (F.inj _ _ hf hg z)]
      exact RFs.get hf r h
theorem RFs.put {f : Nat} {v : V} {d : D} (hf : C.isF f) (q : RV C.K H v d) : ∀ {l : List (Str × V)} {m : List (Nat × D)}, RFs C H l m → RFs C H (putF (C.nm f) v l) (putN f d m)
  | _, _, .nil => .cons hf q .nil
  | _, _, .cons (f := g) (v := u) hg p r => by
    unfold putF putN
    by_cases e : f = g
    · subst e
      rw [if_pos rfl, if_pos rfl]
      exact .cons hg q r
    · rw [if_neg e, if_neg fun z => e (F.inj _ _ hf hg z.symm)]
      exact .cons hg p (RFs.put hf q r)
theorem RFs.noM {c : Nat} {m : Str} {g : Addr} (hc : C.isC c) (M : Meth C.K (C.ca c) m g) : ∀ {l : List (Str × V)} {k : List (Nat × D)}, RFs C H l k → l.lookup m = none
  | _, _, .nil => rfl
  | _, _, .cons (f := f) hf q r => by
    have ne : m ≠ C.nm f := fun z => by
      have h1 := M.at_
      have h2 : PySem.W.findIn C.K (.ref (C.ca c)) (C.nm f) = some none := F.noat c f hc hf
      rw [z, h2] at h1
      cases h1
    rw [List.lookup_cons, beq_eq_false_iff_ne.mpr ne]
    exact RFs.noM hc M r
end
theorem RFs.length {C : Cn} {H : Hp} : ∀ {l : List (Str × V)} {m : List (Nat × D)}, RFs C H l m → l.length = m.length
  | _, _, .nil => rfl
  | _, _, .cons _ _ r => congrArg (· + 1) r.length
/-- a receiver that is no super() -/
def okBase : Expr → Bool
  | .Call (.Name _ _) [] [] _ => false
  | _ => true
theorem base_of {o : Expr} {n : Str} {env : PySem.Env} {w : Sem Value} (h : okBase o = true) : attributeBase o n env w = w := by
  unfold attributeBase
  split
  · cases h
  · rfl
def notStar : Expr → Bool
  | .Starred _ _ => false
  | _ => true
theorem star1 {e : Expr} {es : List Expr} {env : PySem.Env} (h : notStar e = true) : starEach (e :: es) env = (false, eval e env) :: starEach es env := by
  cases e <;> first | rfl | cases h
theorem starAll {env : PySem.Env} {pos : Pos} : ∀ {es : List Expr}, es.all notStar = true → (backTo pos (starEach es env)).any (·.1) = false
  | [], _ => rfl
  | e :: es, h => by
    rw [List.all_cons, Bool.and_eq_true] at h
    rw [star1 h.1]
    show (false || (backTo pos (starEach es env)).any (·.1)) = false
    rw [starAll h.2]
    rfl
theorem starAll' {env : PySem.Env} {pos : Pos} : ∀ {es : List Expr}, es.all notStar = true → (backTo pos (starEach es env)).all (!·.1) = true
  | [], _ => rfl
  | e :: es, h => by
    rw [List.all_cons, Bool.and_eq_true] at h
    rw [star1 h.1]
    show (!false && (backTo pos (starEach es env)).all (!·.1)) = true
    rw [starAll' h.2]
    rfl
section
variable {X : Cx} {C : Cn} {W : WX} (hK : X.K = C.K)
include hK in
theorem s_fld {a : Expr} {f : Nat} {fn : Str} {pos : Pos} {wa : WE} (F : Fcts C) (hn : C.nm f = fn) (hf : C.isF f) (ha : PE X a (LE C W wa)) (ma : MonoE wa) (hb : okBase a = true) :
    PE X (.Attribute a fn pos) (LE C W fun env S Q E => wa env S (fun x S1 => ∃ p c fs d, x = .ref p ∧ S1 p = some (.ins c fs) ∧ fs.lookup f = some d ∧ Q d S1) E) := by
  subst hn
  refine (pe_fld ha (base_of hb)).mono fun σ H Q ⟨env, S, r, q⟩ => LE.use ma r q (fun _ _ z => z) fun d1 S1 v1 H1 x1 r1 q1 ⟨p, c, fs, d, e, e1, e2, k⟩ => ?_
  subst e
  cases q1
  obtain ⟨dx, fs', e3, q3, hc⟩ := r1.2.2.ins e1
  obtain ⟨v, e4, q4⟩ := RFs.get F hf q3 e2
  exact ⟨p, C.ca c, dx, fs', v, rfl, e3, hK ▸ F.cls c hc, hK ▸ F.noat c f hc hf, e4, (QV.ext x1 _ _ k).at r1.2.2 q4⟩
/-- a call of the thing at a keeps to its meaning -/
def CallOk (X : Cx) (C : Cn) (W : WX) (a : Addr) (w : List D → Store → PQ → PX → Prop) : Prop :=
  ∀ (pins : List (Addr × Obj)) (σ : St2) (H : Hp) (s : Shared) (us : List Value) (vs : List V) (ds : List D) (S : Store) (Q : VK), L2.Inv X pins σ H s → Vals vs us → RVs C.K H vs ds → SOk C H S →
    w ds S (QV C H Q) (XW C W σ H) → wpAny (model X.prog X.w) X.A (call (.ref a) us) (EP X pins σ Q) X.xe s
def MonoW (w : List D → Store → PQ → PX → Prop) : Prop := ∀ ds S Q Q' E E', (∀ d S, Q d S → Q' d S) → (∀ c S, E c S → E' c S) → w ds S Q E → w ds S Q' E'
theorem s_call0 {x : Str} {a : Addr} {p pos : Pos} {w : List D → Store → PQ → PX → Prop} (hg : Gl X x) (hm : X.mg x = some (.ref a)) (hk : PySem.W.keepIn X.K (.ref a) = true) (ho : CallOk X C W a w) (hdb : (x == ("__debug__" : Str)) = false) :
    PE X (.Call (.Name x p) [] [] pos) (LE C W fun _ S Q E => w [] S Q E) := by
  refine ⟨fun pins s σ H Q I ⟨env, S, r, q⟩ => ?_⟩
  refine wpAny_Call_Name_kw (ld_glob I hg hm ?_ hdb)
  exact PySem.W.callWith_K0 I.kIn hk (ho pins σ H s [] [] [] S Q I .nil .nil r.2.2 q)
theorem s_call {x : Str} {a : Addr} {p pos : Pos} {e : Expr} {es : List Expr} {wes : WA} {w : List D → Store → PQ → PX → Prop} (hg : Gl X x) (hm : X.mg x = some (.ref a)) (hk : PySem.W.keepIn X.K (.ref a) = true) (ho : CallOk X C W a w) (mw : MonoW w)
    (ha : PA X (e :: es) (LA C W wes)) (ma : MonoA wes) (hs : (e :: es).all notStar = true) (hdb : (x == ("__debug__" : Str)) = false) :
    PE X (.Call (.Name x p) (e :: es) [] pos) (LE C W fun env S Q E => wes env S (fun ds S1 => w ds S1 Q E) E) := by
  refine ⟨fun pins s σ H Q I ⟨env, S, r, q⟩ => ?_⟩
  refine wpAny_Call_Name_kw (ld_glob I hg hm ?_ hdb)
  have hq : LA C W wes σ H (fun vs H1 => ∃ ds S1, RVs C.K H1 vs ds ∧ SOk C H1 S1 ∧ w ds S1 (QV C H1 Q) (XW C W σ H1)) :=
    LA.use ma r q (fun _ _ z => z) fun ds S1 vs H1 x1 r1 q1 k1 => ⟨ds, S1, q1, r1.2.2, mw _ _ _ _ _ _ (QV.ext x1) (XW.ext x1) k1⟩
  have hA := ha.run pos pins s σ H _ I hq
  rw [List.all_cons, Bool.and_eq_true] at hs
  refine PySem.W.callWith_K (h₀ := X.base) I.ok.mod.kin hk (thn hA fun us s1 ⟨vs, H1, I1, rv, ds, S1, q1, ok, k⟩ => ⟨I1.kIn, ?_⟩) (star1 hs.1) (starAll hs.2)
  exact ho pins σ H1 s1 us vs ds S1 Q I1 rv q1 ok k
theorem mform {es : List Expr} {env : PySem.Env} {pos : Pos} (hs : es.all notStar = true) (hl : es.length < 30) : methodCallForm (es.length + ([] : List Keyword).length) (backTo pos (starEach es env)) (backToKw pos (keywordEach [] env)) = true := by
  unfold methodCallForm
  rw [starAll' hs]
  show (true && true && decide (es.length + 0 + 0 < 30)) = true
  rw [decide_eq_true (by omega)]
  rfl
theorem mcall_eval {o : Expr} {m : Str} {apos pos : Pos} {es : List Expr} {env : PySem.Env} (hb : okBase o = true) (hs : es.all notStar = true) (hl : es.length < 30) (hln : (apos.endLine == pos.line) = true) :
    eval (.Call (.Attribute o m apos) es [] pos) env = (do
      let ov ← eval o env
      standAt apos.atName
      let (f, first) ← holding [ov] (getMethod ov m (plainOf o env))
      callWith pos f first (backTo pos (starEach es env)) (backToKw pos (keywordEach [] env))) := by
  rw [PySem.arm_eval_Call, base_of hb]
  congr 1
  funext ov
  congr 1
  funext _
  exact mcall_line (mform hs hl) hln
/-- the methods of own classes -/
def MethOk (X : Cx) (C : Cn) (W : WX) (P : Prg) (R : Rec) (m : Nat) : Prop := ∀ c f, P.meth c m = some f → ∃ a, Meth X.K (C.ca c) (C.nm m) a ∧ CallOk X C W a fun ds S Q E => R f ds S Q E
include hK in
theorem s_meth {o : Expr} {m : Nat} {mn : Str} {apos pos : Pos} {es : List Expr} {wo : WE} {wes : WA} {P : Prg} {R : Rec} (F : Fcts C) (hn : C.nm m = mn) (mR : MonoR R) (M : MethOk X C W P R m) (he : PE X o (LE C W wo)) (mo : MonoE wo)
    (ha : PA X es (LA C W wes)) (ma : MonoA wes) (hnil : es = [] → wes = fun _ S Q _ => Q [] S) (hb : okBase o = true) (hs : es.all notStar = true) (hl : es.length < 30) (hln : (apos.endLine == pos.line) = true) :
    PE X (.Call (.Attribute o mn apos) es [] pos) (LE C W fun env S Q E => wo env S (fun x S1 => ∃ p c fs f, x = .ref p ∧ S1 p = some (.ins c fs) ∧ P.meth c m = some f ∧ wes env S1 (fun ds S2 => R f (.ref p :: ds) S2 Q E) E) E) := by
  subst hn
  refine ⟨fun pins s σ H Q I ⟨env, S, r, q⟩ => ?_⟩
  refine PySem.W.methodCall_KW (pl := plainOf o X.env) ?_ (mcall_eval hb hs hl hln)
  refine thn (he.run pins s σ H (fun x H1 => ∃ p c fs f S1, x = .ref p ∧ Ext C.K H H1 ∧ Rl C σ H1 env S1 ∧ S1 p = some (.ins c fs) ∧ P.meth c m = some f ∧ wes env S1 (fun ds S2 => R f (.ref p :: ds) S2 (QV C H1 Q) (XW C W σ H1)) (XW C W σ H1)) I
    (LE.use mo r q (fun _ _ z => z) fun d1 S1 v1 H1 x1 r1 q1 ⟨p, c, fs, f, e, e1, e2, k⟩ => by
      subst e
      cases q1
      exact ⟨p, c, fs, f, S1, rfl, x1, r1, e1, e2, ma _ _ _ _ _ _ (fun ds S2 z => mR _ _ _ _ _ _ _ (QV.ext x1) (XW.ext x1) z) (XW.ext x1) k⟩)) fun u s1 ⟨x, H1, I1, rx, p, c, fs, f, S1, ex, x1, r1, e1, e2, k⟩ => ?_
  subst ex
  obtain rfl : u = Value.ref p := rx
  obtain ⟨dx, fs', e3, q3, hc⟩ := r1.2.2.ins e1
  obtain ⟨g, hM, hR⟩ := M c f e2
  refine getmeth_ok I1 e3 (hK ▸ F.cls c hc) hM (RFs.noM F hc (hK ▸ hM) q3) ?_
  cases es with
  | nil =>
    rw [hnil rfl] at k
    exact PySem.W.callWith_K0 (first := [.ref p]) I1.kIn hM.kp (hR pins σ H1 s1 [.ref p] [.ref p] [.ref p] S1 Q I1 (.cons rfl .nil) (.cons (.ref p) .nil) r1.2.2 k)
  | cons e es =>
    have hA := ha.run pos pins s1 σ H1 (fun vs H2 => ∃ ds S2, RVs C.K H2 vs ds ∧ SOk C H2 S2 ∧ R f (.ref p :: ds) S2 (QV C H2 Q) (XW C W σ H2)) I1
      (LA.use ma r1 k (fun _ _ z => z) fun ds S2 vs H2 x2 r2 q2 k2 => ⟨ds, S2, q2, r2.2.2, mR _ _ _ _ _ _ _ (QV.ext x2) (XW.ext x2) k2⟩)
    rw [List.all_cons, Bool.and_eq_true] at hs
    refine PySem.W.callWith_K (first := [.ref p]) (h₀ := X.base) I.ok.mod.kin hM.kp (thn hA fun us s2 ⟨vs, H2, I2, rv, ds, S2, q2, ok, k2⟩ => ⟨I2.kIn, ?_⟩) (star1 hs.1) (starAll hs.2)
    exact hR pins σ H2 s2 (.ref p :: us) (.ref p :: vs) (.ref p :: ds) S2 Q I2 (.cons rfl rv) (.cons (.ref p) q2) ok k2
/-! ### built-in functions -/
include hK in
theorem s_bltF {x : Str} {id : String} {b : Blt} {p pos : Pos} {e : Expr} {es : List Expr} {wes : WA} (hc : X.calm = true) (hu : X.A.units + 64 < cLine) (hid : bltVal b = .builtin id) (hg : Gl X x) (hm : X.mg x = none) (hv : bootBuiltins x = some (.builtin id))
    (ha : PA X (e :: es) (LA C W wes)) (ma : MonoA wes) (hs : (e :: es).all notStar = true) (hn : x ≠ "__name__") (hdb : (x == ("__debug__" : Str)) = false) :
    PE X (.Call (.Name x p) (e :: es) [] pos) (LE C W fun env S Q E => wes env S (fun ds S1 => wpBlt b ds S1 Q) E) := by
  have hR := blt_rule hK hc hu b
  rw [hid] at hR
  rw [List.all_cons, Bool.and_eq_true] at hs
  exact (pe_callB hR hg hm hv ha hn hdb (star1 hs.1) (starAll hs.2)).mono fun σ H Q ⟨env, S, r, q⟩ =>
    LA.use ma r q (fun _ _ z => z) fun ds S1 vs H1 x1 r1 q1 k1 => ⟨ds, S1, q1, r1.2.2, wpBlt_mono (QV.ext x1) k1⟩
include hK in
theorem s_bltT {x : Str} {id : String} {b : Blt} {p pos : Pos} {e : Expr} {es : List Expr} {wes : WA} (hc : X.calm = true) (hu : X.A.units + 64 < cLine) (hid : bltVal b = .type id) (hg : Gl X x) (hm : X.mg x = none) (hv : bootBuiltins x = some (.type id))
    (ha : PA X (e :: es) (LA C W wes)) (ma : MonoA wes) (hs : (e :: es).all notStar = true) (hn : x ≠ "__name__") (hdb : (x == ("__debug__" : Str)) = false) :
    PE X (.Call (.Name x p) (e :: es) [] pos) (LE C W fun env S Q E => wes env S (fun ds S1 => wpBlt b ds S1 Q) E) := by
  have hR := blt_rule hK hc hu b
  rw [hid] at hR
  rw [List.all_cons, Bool.and_eq_true] at hs
  exact (pe_callTy hR hg hm hv ha hn hdb (star1 hs.1) (starAll hs.2)).mono fun σ H Q ⟨env, S, r, q⟩ =>
    LA.use ma r q (fun _ _ z => z) fun ds S1 vs H1 x1 r1 q1 k1 => ⟨ds, S1, q1, r1.2.2, wpBlt_mono (QV.ext x1) k1⟩
/-! ### isinstance -/
/-- a list of written types as arguments -/
def PTys (X : Cx) (es : List Expr) (vs : List V) : Prop := PA X es fun _ H Q => Q vs H
include hK in
theorem s_isi1 {p pos : Pos} {a t : Expr} {wa : WE} {ty : Ty} {n : String} (hn : ty.nm = some n) (hg : Gl X "isinstance") (hm : X.mg "isinstance" = none) (ha : PE X a (LE C W wa)) (ma : MonoE wa) (ht : PE X t (tC (.ty n))) (h1 : notStar a = true) (h2 : notStar t = true) :
    PE X (.Call (.Name "isinstance" p) [a, t] [] pos) (LE C W fun env S Q E => wa env S (fun x S1 => ∃ k b, kdOf S1 x = some k ∧ isTys k [ty] = some b ∧ Q (.bl b) S1) E) := by
  have hs : ∀ z : Expr, notStar z = true → ([z].all notStar) = true := fun z hz => by rw [List.all_cons, hz]; rfl
  refine (pe_callB call_isi hg hm (by decide +kernel) (pa_cons ha (pa_cons ht pa_nil (star1 h2)) (star1 h1)) (by decide) (by decide) (star1 h1) (starAll (hs t h2))).mono fun σ H Q ⟨env, S, r, q⟩ =>
    LE.use ma r q (fun _ _ z => z) fun d1 S1 v1 H1 x1 r1 q1 ⟨k, b, e1, e2, z⟩ => ?_
  have e3 : kdTy k ty = some b := by
    unfold isTys at e2
    cases e : kdTy k ty with
    | none => rw [e] at e2; cases e2
    | some b' =>
      rw [e] at e2
      have e2 : some (b' || false) = some b := e2
      rw [Bool.or_false] at e2
      exact e2
  exact ⟨v1, .ty n, _, _, b, rfl, .ty n, hK ▸ kd_ty r1.2.2 q1 e1, kit_ty (kd_kit k ty b n e3 hn), (QV.ext x1 _ _ z).at r1.2.2 (.bl b)⟩
include hK in
theorem s_isiN {p pos tpos : Pos} {kk : Nat} {a : Expr} {ts : List Expr} {wa : WE} {tys : List Ty} {vs : List V} (hn : tysV tys = some vs) (hl : vs.length ≤ sizeLine) (hg : Gl X "isinstance") (hm : X.mg "isinstance" = none) (ha : PE X a (LE C W wa)) (ma : MonoE wa) (ht : PTys X ts vs) (h1 : notStar a = true) :
    PE X (.Call (.Name "isinstance" p) [a, .Tuple ts kk tpos] [] pos) (LE C W fun env S Q E => wa env S (fun x S1 => ∃ k b, kdOf S1 x = some k ∧ isTys k tys = some b ∧ Q (.bl b) S1) E) := by
  refine (pe_callB call_isiT hg hm (by decide +kernel) (pa_cons ha (pa_cons (pe_tup ht) pa_nil rfl) (star1 h1)) (by decide) (by decide) (star1 h1) rfl).mono fun σ H Q ⟨env, S, r, q⟩ =>
    LE.use ma r q (fun _ _ z => z) fun d1 S1 v1 H1 x1 r1 q1 ⟨k, b, e1, e2, z⟩ => ?_
  refine ⟨hl, fun t ht' => ?_⟩
  obtain ⟨us, pr, ka⟩ := tysV_ok (K := X.K) hn e2
  have x2 : Ext C.K H1 (L2.upd H1 t (.tup vs)) := Ext.new ht'
  have ok2 := r1.2.2.new0 (o := .tup vs) ht'
  exact ⟨v1, t, vs, _, us, b, rfl, upd_same, pr, hK ▸ kd_ty ok2 (q1.ext x2) e1, ka, (QV.ext (x1.trans x2) _ _ z).at ok2 (.bl b)⟩
end
end SW
/-! SW, part H: methods of built-in types, what is walked, comprehensions. -/
namespace SW
open PySem PySem.Spec PyProof.Rows L2
def bmtNm : Bmt → Str
  | .append => "append"
  | .pop => "pop"
  | .get => "get"
  | .join => "join"
  | .split => "split"
  | .extend => "extend"
  | .clear => "clear"
  | .index => "index"
  | .setdefault => "setdefault"
  | .insert => "insert"
  | .reverse => "reverse"
  | .count => "count"
  | .remove => "remove"
  | .startswith => "startswith"
  | .items => "items"
theorem bmt_slot {k : Kd} {m : Bmt} {id : String} (h : bmtId k m = some id) : PlainAttrs k.nm ∧ Slot k.nm (bmtNm m) id ∧ typeOf (.builtin id) = pure (.type "method_descriptor") := by
  cases k <;> cases m <;> cases h
  · exact ⟨F.plainAttrs_str, F.slot_str_join, F.type_str_join⟩
  · exact ⟨F.plainAttrs_str, F.slot_str_split, F.type_str_split⟩
  · exact ⟨F.plainAttrs_list, F.slot_list_append, F.type_list_append⟩
  · exact ⟨F.plainAttrs_list, F.slot_list_pop, F.type_list_pop⟩
  · exact ⟨F.plainAttrs_list, F.slot_list_extend, F.type_list_extend⟩
  · exact ⟨F.plainAttrs_list, F.slot_list_clear, F.type_list_clear⟩
  · exact ⟨F.plainAttrs_list, F.slot_list_remove, F.type_list_remove⟩
  · exact ⟨F.plainAttrs_dict, F.slot_dict_pop, F.type_dict_pop⟩
  · exact ⟨F.plainAttrs_dict, F.slot_dict_get, F.type_dict_get⟩
def RMD (C : Cn) (k : Kd) (m : Bmt) : V → List V → Hp → VK → Prop := fun x vs H Q => ∃ dx ds S, RV C.K H x dx ∧ RVs C.K H vs ds ∧ SOk C H S ∧ wpBmt k m dx ds S (QV C H Q)
theorem RVs.eraseIdx {K : PySem.W.Frag} {H : Hp} : ∀ {vs : List V} {ds : List D} (n : Nat), RVs K H vs ds → RVs K H (vs.eraseIdx n) (ds.eraseIdx n)
  | _, _, _, .nil => .nil
  | _, _, 0, .cons h r => r
  | _, _, n + 1, .cons h r => .cons h (r.eraseIdx n)
theorem RVs.dropLast {K : PySem.W.Frag} {H : Hp} {vs : List V} {ds : List D} (r : RVs K H vs ds) : RVs K H vs.dropLast ds.dropLast := by
  rw [List.dropLast_eq_take, List.dropLast_eq_take, r.length]
  exact r.take _
theorem RVs.ofStrs {K : PySem.W.Frag} {H : Hp} : ∀ {ns : List Str}, RVs K H (ns.map V.str) (ns.map D.str)
  | [] => .nil
  | _ :: _ => .cons (.str _) RVs.ofStrs
theorem RKs.rep {C : Cn} {H : Hp} {k : Key} {v : V} {d : D} (q : RV C.K H v d) : ∀ {l : List (Key × V)} {m : List (D × D)}, RKs C H l m → RKs C H (l.map fun kv => if kv.1 = k then (kv.1, v) else kv) (repK (kD k) d m)
  | _, _, .nil => .nil
  | _, _, .cons (k := k') h r => by
    show RKs C H ((if k' = k then (k', v) else (k', _)) :: _) ((if eqK (kD k') (kD k) = true then (kD k', d) else (kD k', _)) :: _)
    rw [kD_eq]
    by_cases e : k' = k
    · rw [if_pos e, if_pos (decide_eq_true e)]
      exact .cons q (RKs.rep q r)
    · rw [if_neg e, if_neg (by simpa using e)]
      exact .cons h (RKs.rep q r)
theorem RKs.has {C : Cn} {H : Hp} {k : Key} : ∀ {l : List (Key × V)} {m : List (D × D)}, RKs C H l m → (l.any fun kv => decide (kv.1 = k)) = hasK (kD k) m
  | _, _, .nil => rfl
  | _, _, .cons h r => by
    have ih := RKs.has (k := k) r
    unfold hasK at ih ⊢
    rw [List.any_cons, List.any_cons, ih]
    simp only [kD_eq]
theorem RKs.append {C : Cn} {H : Hp} : ∀ {l l' : List (Key × V)} {m m' : List (D × D)}, RKs C H l m → RKs C H l' m' → RKs C H (l ++ l') (m ++ m')
  | _, _, _, _, .nil, q => q
  | _, _, _, _, .cons h r, q => .cons h (r.append q)
theorem RKs.put {C : Cn} {H : Hp} {k : Key} {v : V} {d : D} (q : RV C.K H v d) {l : List (Key × V)} {m : List (D × D)} (r : RKs C H l m) : RKs C H (L2.putK l k v) (SW.putK (kD k) d m) := by
  unfold L2.putK SW.putK
  rw [r.has]
  split
  · exact r.rep q
  · exact r.append (.cons q .nil)
theorem RKs.drop {C : Cn} {H : Hp} {k : Key} : ∀ {l : List (Key × V)} {m : List (D × D)}, RKs C H l m → RKs C H (L2.dropK l k) (delK (kD k) m)
  | _, _, .nil => .nil
  | _, _, .cons (k := k') h r => by
    have ih := RKs.drop (k := k) r
    unfold L2.dropK delK at ih ⊢
    rw [List.filter_cons, List.filter_cons]
    by_cases e : k' = k
    · rw [if_neg (by simpa using e), if_neg (by simp [kD_eq, e])]
      exact ih
    · rw [if_pos (by simpa using e), if_pos (by simp [kD_eq, e])]
      exact .cons h ih
theorem QV.put {C : Cn} {H : Hp} {S : Store} {Q : VK} {d : D} {v : V} {p : Addr} {o : HO} {c c0 : Cell} (h : QV C H Q d (S.upd p c)) (ok : SOk C H S) (e : S p = some c0) (r : ∀ H', Ext C.K H H' → RV C.K H' v d) (n : Ext C.K H (L2.upd H p o) → CellR C (L2.upd H p o) p c) (hf : nofz c0 = true := by rfl) : Q v (L2.upd H p o) := by
  obtain ⟨u, hu, hn⟩ := (ok p c0 e).ups hf
  have x : Ext C.K H (L2.upd H p o) := Ext.at hu hn
  exact h v _ x (ok.put e (n x) hf).2 (r _ x)
section
variable {X : Cx} {C : Cn} {W : WX} (hK : X.K = C.K)
include hK in
theorem bmt_rule (hu : X.A.units + 64 < cLine) {k : Kd} {m : Bmt} {id : String} (hi : bmtId k m = some id) : MtR X id (RMD C k m) := by
  intro pins s σ H x vs v us Q I rx rv h
  obtain ⟨dx, ds, S, r1, rs, ok, h⟩ := h
  unfold wpBmt at h
  split at h
  · cases hi
    obtain ⟨xs, e, hl, h⟩ := h
    cases r1
    cases rs with
    | cons r2 rs =>
      cases rs
      obtain ⟨ws, e1, q⟩ := ok.lst e
      exact mt_append pins s σ H _ _ v us Q I rx rv ⟨_, _, _, rfl, rfl, e1, by rw [q.length]; exact hl, QV.put h ok e (fun _ _ => .non) fun x => ⟨_, upd_same, (q.ext x).append (.cons (r2.ext x) .nil)⟩⟩
  · cases hi
    obtain ⟨xs, ys, e, e2, hl, h⟩ := h
    cases r1
    cases rs with
    | cons r2 rs =>
      cases rs
      cases r2
      obtain ⟨ws, e1, q⟩ := ok.lst e
      obtain ⟨zs, e3, q2⟩ := ok.lst e2
      exact mt_extend pins s σ H _ _ v us Q I rx rv ⟨_, _, _, _, rfl, rfl, e1, e3, by rw [q.length, q2.length]; exact hl, QV.put h ok e (fun _ _ => .non) fun x => ⟨_, upd_same, (q.ext x).append (q2.ext x)⟩⟩
  · cases hi
    obtain ⟨xs, e, h⟩ := h
    cases r1
    cases rs
    obtain ⟨ws, e1, q⟩ := ok.lst e
    exact mt_clear pins s σ H _ _ v us Q I rx rv ⟨_, _, rfl, rfl, e1, QV.put h ok e (fun _ _ => .non) fun x => ⟨_, upd_same, .nil⟩⟩
  · cases hi
    obtain ⟨xs, d, e, e2, h⟩ := h
    cases r1
    cases rs
    obtain ⟨ws, e1, q⟩ := ok.lst e
    obtain ⟨y, e3, q3⟩ := q.get e2
    exact mt_pop pins s σ H _ _ v us Q I rx rv ⟨_, _, y, rfl, rfl, e1, by rw [q.length]; exact e3, QV.put h ok e (fun _ x => q3.ext x) fun x => ⟨_, upd_same, (q.ext x).dropLast⟩⟩
  · cases hi
    obtain ⟨xs, j, d, e, h1, h2, h3, h4, h⟩ := h
    cases r1
    cases rs with
    | cons r2 rs =>
      cases rs
      cases r2
      obtain ⟨ws, e1, q⟩ := ok.lst e
      obtain ⟨y, e3, q3⟩ := q.get h4
      exact mt_popAt pins s σ H _ _ v us Q I rx rv ⟨_, _, _, j, y, rfl, rfl, e1, h1, h2, by rw [q.length]; exact h3, e3, QV.put h ok e (fun _ x => q3.ext x) fun x => ⟨_, upd_same, (q.ext x).eraseIdx j⟩⟩
  · cases hi
    obtain ⟨xs, ns, j, e, e2, h1, h2, h⟩ := h
    cases r1
    cases rs with
    | cons r2 rs =>
      cases rs
      cases r2
      obtain ⟨ws, e1, q⟩ := ok.lst e
      cases q.ints e2
      exact mt_remove pins s σ H _ _ v us Q I rx rv ⟨_, ns, _, j, rfl, rfl, e1, h1, h2, QV.put h ok e (fun _ _ => .non) fun x => ⟨_, upd_same, RVs.ofInts⟩⟩
  · cases hi
    obtain ⟨xs, ys, e, e2, hl, h⟩ := h
    cases r1
    cases rs with
    | cons r2 rs =>
      cases rs
      obtain ⟨p, ws, rfl, q, z⟩ := sq_of ok r2 e
      cases q.strs e2
      refine mt_join pins s σ H _ _ v us Q I rx rv ⟨_, p, ys, rfl, rfl, ?_, hl, h.at ok (.str _)⟩
      rcases z with z | z
      · exact .inl (hK ▸ z)
      · exact .inr (hK ▸ z.1)
  · cases hi
    cases r1
    cases rs with
    | cons r2 rs =>
      cases rs
      cases r2
      exact mt_split pins s σ H _ _ v us Q I rx rv ⟨_, _, rfl, rfl, h.1, h.2.1, fun p hp => QV.new h.2.2 ok RVs.ofStrs hp⟩
  · cases hi
    obtain ⟨kvs, e, f, h⟩ := h
    cases r1
    cases rs with
    | cons r2 rs =>
      cases rs
      obtain ⟨ky, rfl⟩ := key_of f
      obtain ⟨l, e1, q⟩ := ok.dic e
      cases kV_of r2
      obtain ⟨u, rfl, ru⟩ := Vals.one rv
      cases rx
      refine d_get1 (by omega) I (.inl ⟨l, ky, .inl e1, rfl, rfl⟩) ru fun w' s' I' rw' => ⟨_, H, I', rw', h.at ok ?_⟩
      have g := q.get ky
      revert g
      cases valV l ky <;> cases getK (kD ky) kvs <;> intro g
      · exact .non
      · exact g.elim
      · exact g.elim
      · exact g
  · cases hi
    obtain ⟨kvs, e, f, h⟩ := h
    cases r1
    cases rs with
    | cons r2 rs =>
      cases rs with
      | cons r3 rs =>
        cases rs
        obtain ⟨ky, rfl⟩ := key_of f
        obtain ⟨l, e1, q⟩ := ok.dic e
        cases kV_of r2
        obtain ⟨u, u2, rfl, ru, ru2⟩ := Vals.two rv
        cases rx
        refine d_get2 (by omega) I (.inl ⟨l, ky, .inl e1, rfl, rfl⟩) ru ru2 fun w' s' I' rw' => ⟨_, H, I', rw', h.at ok ?_⟩
        have g := q.get ky
        revert g
        cases valV l ky <;> cases getK (kD ky) kvs <;> intro g
        · exact r3
        · exact g.elim
        · exact g.elim
        · exact g
  · cases hi
    obtain ⟨kvs, d, e, f, h1, h⟩ := h
    cases r1
    cases rs with
    | cons r2 rs =>
      cases rs
      obtain ⟨ky, rfl⟩ := key_of f
      obtain ⟨l, e1, q⟩ := ok.dic e
      cases kV_of r2
      obtain ⟨u, rfl, ru⟩ := Vals.one rv
      cases rx
      obtain ⟨w, e3, q3⟩ := q.val h1
      exact d_pop I e1 ru e3 (.inl rfl) fun w' s' I' rw' => ⟨w, _, I', rw', QV.put h ok e (fun _ x => q3.ext x) fun x => ⟨_, upd_same, (q.ext x).drop⟩⟩
  · exact h.elim
theorem kdM_ty {H : Hp} {S : Store} (ok : SOk C H S) {x : V} {d : D} {k : Kd} (r : RV C.K H x d) (h : kdM S d = some k) : tyV C.K k.nm x H := by
  cases r with
  | str s => cases h; exact rfl
  | ref a =>
    simp only [kdM] at h
    cases e : S a with
    | none => rw [e] at h; cases h
    | some c =>
      rw [e] at h
      cases c with
      | lst xs =>
        cases h
        obtain ⟨ws, e1, _⟩ := ok.lst e
        exact .inl ⟨rfl, ws, .of e1⟩
      | dic kvs =>
        cases h
        obtain ⟨l, e1, _⟩ := ok.dic e
        exact .inr (.inr (.inl ⟨rfl, .inl ⟨l, e1⟩⟩))
      | ins _ _ => cases h
      | fz _ => cases h
  | _ => cases h
include hK in
theorem s_bmt {o : Expr} {m : Bmt} {apos pos : Pos} {es : List Expr} {wo : WE} {wes : WA} (hu : X.A.units + 64 < cLine) (he : PE X o (LE C W wo)) (mo : MonoE wo)
    (ha : PA X es (LA C W wes)) (ma : MonoA wes) (hnil : es = [] → wes = fun _ S Q _ => Q [] S) (hb : okBase o = true) (hs : es.all notStar = true) (hl : es.length < 30) (hln : (apos.endLine == pos.line) = true) :
    PE X (.Call (.Attribute o (bmtNm m) apos) es [] pos) (LE C W fun env S Q E => wo env S (fun x S1 => ∃ k, kdM S1 x = some k ∧ (bmtId k m).isSome = true ∧ wes env S1 (fun ds S2 => wpBmt k m x ds S2 Q) E) E) := by
  refine ⟨fun pins s σ H Q I ⟨env, S, r, q⟩ => ?_⟩
  have hfew : ((backTo pos (starEach es X.env)).all (fun x => !x.1) && (backToKw pos (keywordEach [] X.env)).all (fun x => x.1.isSome) && decide (es.length + ([] : List Keyword).length + (if ([] : List Keyword).isEmpty then 0 else 1) < 30)) = true := mform hs hl
  refine wpAny_Call_method_late (base_of hb) hfew hln rfl ?_
  refine thn (he.run pins s σ H (fun x H1 => ∃ d k id S1, RV C.K H1 x d ∧ Ext C.K H H1 ∧ Rl C σ H1 env S1 ∧ kdM S1 d = some k ∧ bmtId k m = some id ∧ wes env S1 (fun ds S2 => wpBmt k m d ds S2 (QV C H1 Q)) (XW C W σ H1)) I
    (LE.use mo r q (fun _ _ z => z) fun d1 S1 v1 H1 x1 r1 q1 ⟨k, e, e1, z⟩ => by
      obtain ⟨id, e2⟩ := Option.isSome_iff_exists.mp e1
      exact ⟨d1, k, id, S1, q1, x1, r1, e, e2, ma _ _ _ _ _ _ (fun ds S2 z => wpBmt_mono (QV.ext x1) z) (XW.ext x1) z⟩)) fun u s1 ⟨x, H1, I1, rx, d, k, id, S1, q1, x1, r1, e, e2, z⟩ => ?_
  obtain ⟨pa, slot, hty⟩ := bmt_slot e2
  obtain ⟨t1, t2⟩ := tyV_is I1 rx (hK ▸ kdM_ty r1.2.2 q1 e)
  refine ⟨k.nm, id, pa, slot, hty, t1, t2, ?_⟩
  have hm := bmt_rule (X := X) (C := C) hK hu e2
  cases es with
  | nil =>
    rw [hnil rfl] at z
    exact Calls.callWith_builtin rfl (PySem.evalArgs_none (hm pins s1 σ H1 x [] u [] Q I1 rx .nil ⟨d, [], S1, q1, .nil, r1.2.2, z⟩))
  | cons e0 es =>
    have hA := ha.run pos pins s1 σ H1 (fun vs H2 => RMD C k m x vs H2 Q) I1 (LA.use ma r1 z (fun _ _ z => z) fun ds S2 vs H2 x2 r2 q2 k2 => ⟨d, ds, S2, q1.ext x2, q2, r2.2.2, wpBmt_mono (QV.ext x2) k2⟩)
    rw [List.all_cons, Bool.and_eq_true] at hs
    rw [star1 hs.1] at hA ⊢
    refine Calls.callWith_builtin (by show (false || (backTo pos (starEach es X.env)).any (·.1)) = false; rw [starAll hs.2]; rfl) (Calls.evalArgs_plain ?_)
    exact thn hA fun us s2 ⟨vs, H2, I2, r2, q2⟩ => hm pins s2 σ H2 x vs u us Q I2 rx r2 q2
end
end SW
/-! SW, part Ha: enumerate over a tuple. -/
namespace SW
open PySem PySem.Spec PyProof.Rows L2
theorem meets_enu_tup (l : Addr) (items : Array Value) (n : Nat) (dct : Option Addr) (sl : Array (Option Value)) :
    Meets (Builtin.«enumerate.__new__» ⟨[.type "enumerate", .ref l], []⟩) (fun _ R s => s.heap.get? l = some { cls := .type "tuple", dict := dct, data := .seq items n, slots := sl } ∧
      R (.ok (.ret (.ref (s.heap.push { cls := .type "tuple_iterator", data := .fields #[.ref l, .int 0 0] }).objs.size)))
        { s with heap := (s.heap.push { cls := .type "tuple_iterator", data := .fields #[.ref l, .int 0 0] }).push { cls := .type "enumerate", data := .fields #[.none, .bool false, .ref s.heap.objs.size, rawInt 0, .none, .none] } }) :=
  .of_wp fun prog w A R s h => by
    obtain ⟨hp, g, d, tk, os⟩ := s
    obtain ⟨hl, h⟩ := h
    have hsub := sub_enumerate
    have hL : Heap.IsTuple (Shared.heap ⟨hp, g, d, tk, os⟩) l items := ⟨_, hl, rfl, n, rfl⟩
    wp_walk using AutoSeq1.wpAny_loadPart' hl
    refine wpAny_stack_any fun st => wpAny_pure ?_
    split
    · rename_i c _ _ _ _ _
      cases (c == Value.type "enumerate")
      · wp_walk using AutoSeq1.wpAny_loadPart' hl, wpAny_pyIter_tuple hL
        exact ⟨_, rfl, h⟩
      · wp_walk using AutoSeq1.wpAny_loadPart' hl, wpAny_pyIter_tuple hL
        exact ⟨_, rfl, h⟩
    · wp_walk using AutoSeq1.wpAny_loadPart' hl, wpAny_pyIter_tuple hL
      exact ⟨_, rfl, h⟩
theorem call_enu_tup {prog : Program} {w : World} {A : Around} {E : Value → Shared → Prop} {s : Shared} {l : Addr} {items : Array Value} {Q : Value → Shared → Prop} (hL : s.heap.IsTuple l items)
    (h : ∀ h', IsEnum h' (s.heap.objs.size + 1) s.heap.objs.size 0 .none → h'.IsTupleIter s.heap.objs.size l 0 → h'.objs.size = s.heap.objs.size + 2 →
      (∀ b o, s.heap.get? b = some o → h'.get? b = some o) → Q (.ref (s.heap.objs.size + 1)) { s with heap := h' }) :
    wpAny (model prog w) A (call (.type "enumerate") [.ref l]) Q E s := by
  obtain ⟨⟨c, dct, dt, sl⟩, hl, hc, n, hd⟩ := hL
  replace hc : c = .type "tuple" := hc
  replace hd : dt = .seq items n := hd
  subst hc hd
  refine callType_new F.called_enumerate (by decide) (F.typeCall_enumerate_1 _) (F.newCall_enumerate_1 _) (fun obj => F.args_object_init_2 obj _) F.entry_enumerate_new
    (meets_enu_tup l items n dct sl) ⟨hl, ?_⟩
  have hz : (s.heap.push { cls := .type "tuple_iterator", data := .fields #[.ref l, .int 0 0] }).objs.size = s.heap.objs.size + 1 := Heap.size_push ..
  show _ ∧ _
  rw [hz]
  have he : IsEnum ((s.heap.push { cls := .type "tuple_iterator", data := .fields #[.ref l, .int 0 0] }).push
      { cls := .type "enumerate", data := .fields #[.none, .bool false, .ref s.heap.objs.size, rawInt 0, .none, .none] }) (s.heap.objs.size + 1) s.heap.objs.size 0 .none := by
    have z := Heap.get?_push_size (s.heap.push { cls := .type "tuple_iterator", data := .fields #[.ref l, .int 0 0] })
      (o := { cls := .type "enumerate", data := .fields #[.none, .bool false, .ref s.heap.objs.size, rawInt 0, .none, .none] }) rfl
    rw [hz] at z
    exact z
  refine ⟨⟨_, he, rfl⟩, h _ he ⟨_, Heap.get?_push_of_some _ (Heap.get?_push_size _ rfl), rfl, rfl⟩ (by rw [Heap.size_push, hz]) fun b o x => Heap.get?_push_of_some _ (Heap.get?_push_of_some _ x)⟩
/-- the tuple at a, each item in a new pair -/
def ItE (K : PySem.W.Frag) (a : Addr) : It :=
  ⟨fun i H => ∃ (xs : List V) (x : V), SqT K H a xs ∧ xs[i]? = some x, fun i H v H' => ∃ T x, v = .ref T ∧ H T = none ∧ H' = L2.upd H T (.tup [.int (i : Nat), x]) ∧ ∀ xs, SqT K H a xs → xs[i]? = some x, fun i H => ∃ xs : List V, SqT K H a xs ∧ xs.length = i⟩
theorem turn_enu_tup {P : Program} {w : World} {K : PySem.W.Frag} {elts : List Expr} {kk : Nat} {tpos : Pos} (a e it : Addr) (hai : a ≠ it) (hea : e ≠ a) :
    Turn P w K (.Tuple elts kk tpos) (ItE K a) [e, it] e (fun i h => (∃ old, IsEnum h e it ((i : Nat) : Int) old) ∧ h.IsTupleIter it a i ∧ e ≠ it) where
  mem := by simp
  obj := fun i h st b hb => by
    obtain ⟨⟨old, he⟩, ⟨o, ho, hc, hd⟩, _⟩ := st
    have e' : b = e ∨ b = it := by simpa using hb
    rcases e' with z | z
    · rw [z]; exact ⟨_, he, fun v q => nomatch q⟩
    · rw [z]; exact ⟨o, ho, fun v q => by rw [hd] at q; cases q⟩
  keep := fun i h h' st k => let ⟨⟨old, he⟩, hi, hne⟩ := st; ⟨⟨old, k e (by simp) _ he⟩, hi.at fun o q => k it (by simp) o q, hne⟩
  item := by
    intro X hP hw hK hc i pins s σ H E I hf st hg
    subst hP hw hK
    obtain ⟨⟨old, he⟩, hit, hne⟩ := st
    obtain ⟨xs, x, hq, hx⟩ := hg
    obtain ⟨its, rv, p, hz⟩ := I.tuple hq
    obtain ⟨u, hu, ru⟩ := rv.get hx
    have hel : e < s.heap.objs.size := Heap.lt_size he
    have hil : it < s.heap.objs.size := by obtain ⟨_, q, _⟩ := hit; exact Heap.lt_size q
    have hl := rv.length
    have hi : i < its.length := by
      have z := (List.getElem?_eq_some_iff.mp hu).1
      exact z
    refine wpAny_pyNext_enum_itemD (Draws.tuple (prog := X.prog) (w := X.w) (A := X.A.in1) (I.ok.hd hc) it a hai its.toArray) he ⟨hit, p⟩ (by simpa using hi) hne (by simp [hne, hea]) fun x' h' tk hx' ho hit' hT hsz hk => ?_
    have ex : x' = u := by
      have z : its.toArray[i]? = some x' := hx'
      have z2 : its.toArray[i]? = some u := by simpa using hu
      rw [z2] at z
      cases z
      rfl
    subst ex
    refine ⟨_, rfl, wpAny_letOwnedTupleGo_enum (s := { s with heap := h', toks := tk + 1 }) ho fun h'' he' sb => ?_⟩
    have hT2 : h''.get? s.heap.objs.size = some { cls := .type "tuple", data := .seq #[.int i tk, x'] } := (sb.2 _ (Nat.ne_of_gt hel)).trans hT
    have new : ObjOk X.prog X.w (L2.upd H s.heap.objs.size (.tup [.int (i : Nat), x])) h'' s.heap.objs.size (.tup [.int (i : Nat), x]) :=
      ⟨by show 2 ≤ sizeLine; decide, [.int i tk, x'], .cons ⟨_, rfl⟩ (.cons ru .nil), ⟨_, hT2, rfl, _, rfl⟩⟩
    have I1 : L2.Inv X pins σ (L2.upd H s.heap.objs.size (.tup [.int (i : Nat), x])) { s with heap := h'', toks := tk + 1 } :=
      I.turnedNew (ch := [e, it]) (fun b ob hb q => (sb.2 b (fun z => hb (by simp [z]))).trans (hk b ob (fun z => hb (by simp [z])) (fun z => hb (by simp [z])) q)) hf (Nat.le_refl _) new
    refine ⟨.ref s.heap.objs.size, _, I1, rfl, ⟨_, x, rfl, I.hok.fresh (Nat.le_refl _), rfl, fun ys hy => by rw [I.tuple_inj hy hq]; exact hx⟩, ⟨⟨x', ?_⟩, hit'.1.at fun o q => (sb.2 it (Ne.symm hne)).trans q, hne⟩, fun b hb => ?_⟩
    · have e1 : ((i + 1 : Nat) : Int) = (i : Int) + 1 := by omega
      rw [e1]; exact he'
    · have hb' : b < s.heap.objs.size := by
        have e' : b = e ∨ b = it := by simpa using hb
        rcases e' with z | z
        · rw [z]; exact hel
        · rw [z]; exact hil
      rw [upd_ne (Nat.ne_of_lt hb')]
      exact (hf b hb).1
  done := by
    intro X hP hw hK hc i pins s σ H E I hf st hg
    subst hP hw hK
    obtain ⟨⟨old, he⟩, hit, hne⟩ := st
    obtain ⟨xs, hq, hx⟩ := hg
    obtain ⟨its, rv, p, hz⟩ := I.tuple hq
    obtain ⟨f0, f1, f2, f3, f4, f5⟩ := hf it (by simp)
    have hl := rv.length
    have ei : i = its.toArray.size := by simp; omega
    subst ei
    exact wpAny_pyNext_enum_endD (Draws.tuple (prog := X.prog) (w := X.w) (A := X.A.in1) (I.ok.hd hc) it a hai its.toArray) he ⟨hit, p⟩ fun h' eb => ⟨rfl, I.turned (t' := s.toks) (fun b o hb q => eb b o hb q) f0 f1 f3 f4 f5⟩
  self := fun A i s Q E st h => let ⟨⟨_, he⟩, _⟩ := st; wpAny_pyIter_enum he h
/-- enumerate(x): a list or a tuple -/
def iEnu (K : PySem.W.Frag) (ta : TA) : TI := fun σ H R => ta σ H fun vs H1 => ∃ a xs, vs = [.ref a] ∧ ((SqL K H1 a xs ∧ R (Ite K a) H1) ∨ (SqT K H1 a xs ∧ R (ItE K a) H1))
theorem pi_enu {X : Cx} {e : Expr} {ta : TA} {p pos tpos : Pos} {elts : List Expr} {kk : Nat} (hg : Gl X "enumerate") (hm : X.mg "enumerate" = none) (ha : PA X [e] ta) (hs : starEach [e] X.env = [(false, eval e X.env)] := by rfl) :
    PI X (.Tuple elts kk tpos) (.Call (.Name "enumerate" p) [e] [] pos) (iEnu X.K ta) := by
  refine ⟨fun pins s σ H R I h => ?_⟩
  refine Call_ (ld_blt I hg hm boot_enumerate (PyProof.Rows.callWith_type1 (thn (ha.run pos pins s σ H _ I h) fun us s1 ⟨vs, H1, I1, r1, q1⟩ => ?_) hs rfl))
  obtain ⟨a, xs, ex, q⟩ := q1
  subst ex
  cases r1 with
  | cons r rr =>
    cases rr
    cases r
    have fin : ∀ b, b ∈ [s1.heap.objs.size + 1, s1.heap.objs.size] → FpOk X pins H1 b := fun b hb => by
      have e' : b = s1.heap.objs.size + 1 ∨ b = s1.heap.objs.size := by simpa using hb
      have hle : s1.heap.objs.size ≤ b := by
        rcases e' with z | z
        · rw [z]; exact Nat.le_add_right _ _
        · rw [z]; exact Nat.le_refl _
      exact I1.fpOk hle (I1.hok.fresh hle)
    rcases q with ⟨hq, q⟩ | ⟨hq, q⟩
    · obtain ⟨its, rv, p', hz⟩ := I1.list hq
      refine call_enumerate_list p'.isList fun h' he hit hsz hk => wpAny_pyIter_enum he ?_
      have I2 : L2.Inv X pins σ H1 { s1 with heap := h' } := I1.kept (t' := s1.toks) hk
      exact ⟨s1.heap.objs.size + 1, [s1.heap.objs.size + 1, s1.heap.objs.size], _, _, H1, rfl, I2, turn_enum a (s1.heap.objs.size + 1) s1.heap.objs.size, ⟨⟨.none, he⟩, hit, Nat.succ_ne_self _⟩, fin, q⟩
    · obtain ⟨its, rv, p', hz⟩ := I1.tuple hq
      have hlt : a < s1.heap.objs.size := by obtain ⟨o, ho, _⟩ := p'; exact Heap.lt_size ho
      refine call_enu_tup (show s1.heap.IsTuple a its.toArray from p') fun h' he hit hsz hk => wpAny_pyIter_enum he ?_
      have I2 : L2.Inv X pins σ H1 { s1 with heap := h' } := I1.kept (t' := s1.toks) hk
      exact ⟨s1.heap.objs.size + 1, [s1.heap.objs.size + 1, s1.heap.objs.size], _, _, H1, rfl, I2, turn_enu_tup a (s1.heap.objs.size + 1) s1.heap.objs.size (Nat.ne_of_lt hlt) (Nat.ne_of_gt (Nat.lt_succ_of_lt hlt)), ⟨⟨.none, he⟩, hit, Nat.succ_ne_self _⟩, fin, q⟩
end SW
/-! SW, part I: what is walked, comprehensions. -/
namespace SW
open PySem PySem.Spec PyProof.Rows L2
abbrev WI := Env → Store → (List D → (Store → Prop) → Store → Prop) → PX → Prop
def MonoI (w : WI) : Prop := ∀ env S K K' E E', (∀ d g S, K d g S → K' d g S) → (∀ c S, E c S → E' c S) → w env S K E → w env S K' E'
/-- a walk over these items, from the heap H0 on -/
def ItOk (C : Cn) (H0 : Hp) (J : It) (items : List D) (guard : Store → Prop) : Prop := ∃ G Y, Walk J items.length G Y ∧ (∀ H S, Ext C.K H0 H → SOk C H S → guard S → G H) ∧
  ∀ i H S x H', i < items.length → Ext C.K H0 H → SOk C H S → guard S → Y i H x H' → Ext C.K H H' ∧ SOk C H' S ∧ ∃ d, items[i]? = some d ∧ RV C.K H' x d
def LI (C : Cn) (W : WX) (w : WI) : TI := fun σ H R => ∃ env S, Rl C σ H env S ∧ w env S (fun items guard S1 => ∀ J H1, Ext C.K H H1 → Rl C σ H1 env S1 → ItOk C H1 J items guard → R J H1) (XW C W σ H)
section
variable {X : Cx} {C : Cn} {W : WX} (hK : X.K = C.K) {tg : Expr}
theorem itok_list {H0 : Hp} {a : Addr} {xs : List D} : ItOk C H0 (Itl C.K a) xs (fun S => S a = some (.lst xs)) := by
  refine ⟨fun H => ∃ vs, SqL C.K H a vs ∧ RVs C.K H vs xs, fun i H x H' => H' = H ∧ ∃ vs, RVs C.K H vs xs ∧ vs[i]? = some x, ⟨fun i H hi ⟨vs, h, r⟩ => ?_, fun H ⟨vs, h, r⟩ => ?_, fun i H x H' hi ⟨vs, h, r⟩ y => ?_⟩, fun H S _ ok g => ?_, fun i H S x H' hi _ ok g ⟨e, vs, r, h⟩ => ?_⟩
  · have hl : i < vs.length := by rw [r.length]; exact hi
    exact ⟨vs, vs[i], h, List.getElem?_eq_getElem hl⟩
  · exact ⟨vs, h, Nat.le_of_eq r.length⟩
  · exact ⟨y.1, vs, r, y.2 vs h⟩
  · obtain ⟨vs, e, r⟩ := ok.lst g
    exact ⟨vs, .of e, r⟩
  · subst e
    obtain ⟨d, e, q⟩ := r.get' h
    exact ⟨Ext.refl, ok, d, e, q⟩
theorem itok_ro {H0 : Hp} {a : Addr} {vs : List V} {xs : List D} (t : RoL C.K H0 a vs) (r : RVs C.K H0 vs xs) : ItOk C H0 (Itl C.K a) xs (fun _ => True) := by
  refine ⟨fun H => SqL C.K H a vs, YAt vs, r.length ▸ walk_list, fun H S x _ _ => ((x a vs).2.1 t).sq, fun i H S x H' hi xt ok _ ⟨e, h⟩ => ?_⟩
  subst e
  obtain ⟨d, e, q⟩ := (r.ext xt).get' h
  exact ⟨Ext.refl, ok, d, e, q⟩
theorem itok_tup {H0 : Hp} {a : Addr} {vs : List V} {xs : List D} (t : SqT C.K H0 a vs) (r : RVs C.K H0 vs xs) : ItOk C H0 (Itt C.K a) xs (fun _ => True) := by
  refine ⟨fun H => SqT C.K H a vs, YAt vs, r.length ▸ walk_tup, fun H S x _ _ => (x a vs).1 t, fun i H S x H' hi xt ok _ ⟨e, h⟩ => ?_⟩
  subst e
  obtain ⟨d, e, q⟩ := (r.ext xt).get' h
  exact ⟨Ext.refl, ok, d, e, q⟩
theorem itok_str {H0 : Hp} {z : Str} : ItOk C H0 (Its z) (z.cps.toList.map fun c => .str ⟨#[c]⟩) (fun _ => True) := by
  have hl : (z.cps.toList.map fun c => D.str ⟨#[c]⟩).length = z.cps.size := by simp
  refine ⟨_, _, hl ▸ walk_str, fun _ _ _ _ _ => trivial, fun i H S x H' hi xt ok _ ⟨e, c, h, ex⟩ => ?_⟩
  subst e ex
  refine ⟨Ext.refl, ok, .str ⟨#[c]⟩, ?_, .str _⟩
  rw [List.getElem?_map, Array.getElem?_toList, h]
  rfl
theorem itok_rng {H0 : Hp} {lo hi : Int} : ItOk C H0 (Itr lo (hi - lo).toNat) (rngL lo hi) (fun _ => True) := by
  have hl : (rngL lo hi).length = (hi - lo).toNat := by unfold rngL; rw [List.length_map, List.length_range]
  refine ⟨_, YFn fun i => .int (lo + i), hl.symm ▸ (walk_range (lo := lo) (n := (hi - lo).toNat)), fun _ _ _ _ _ => trivial, fun i H S x H' hi' xt ok _ ⟨e, h⟩ => ?_⟩
  subst e h
  refine ⟨Ext.refl, ok, .int (lo + (i : Int)), ?_, .int _⟩
  unfold rngL
  rw [List.getElem?_map, List.getElem?_range (by omega)]
  rfl
/-- an iterator of a list, of a tuple -/
theorem it_list {pins : List (Addr × Obj)} {σ : St2} {H : Hp} {s : Shared} {R : It → Hp → Prop} {E : Value → Shared → Prop} {a : Addr} {vs : List V} (I : L2.Inv X pins σ H s) (h : SqL X.K H a vs) (q : R (Itl X.K a) H) :
    wpAny (model X.prog X.w) X.A (pyIter (.ref a)) (PIE X pins σ tg R) E s := by
  obtain ⟨us, _, p, _⟩ := I.list h
  exact wpAny_pyIter_list p.isList (pi_one (tk := s.toks) I _ (turn_list a _) ⟨_, Heap.get?_push_size _ rfl, rfl, rfl⟩ q)
theorem it_tup {pins : List (Addr × Obj)} {σ : St2} {H : Hp} {s : Shared} {R : It → Hp → Prop} {E : Value → Shared → Prop} {a : Addr} {vs : List V} (I : L2.Inv X pins σ H s) (h : SqT X.K H a vs) (q : R (Itt X.K a) H) :
    wpAny (model X.prog X.w) X.A (pyIter (.ref a)) (PIE X pins σ tg R) E s := by
  obtain ⟨us, _, p, _⟩ := I.tuple h
  exact wpAny_pyIter_tuple p (pi_one (tk := s.toks) I _ (turn_tuple a _) ⟨_, Heap.get?_push_size _ rfl, rfl, rfl⟩ q)
theorem it_str {pins : List (Addr × Obj)} {σ : St2} {H : Hp} {s : Shared} {R : It → Hp → Prop} {E : Value → Shared → Prop} {z : Str} {t : Tok} (I : L2.Inv X pins σ H s) (q : R (Its z) H) :
    wpAny (model X.prog X.w) X.A (pyIter (.str z t)) (PIE X pins σ tg R) E s := by
  cases ha : z.cps.all (· < 128) with
  | false => exact wpAny_pyIter_wide ha (pi_one (tk := s.toks) I _ (turn_str _ z t "str_iterator" (.inr rfl)) ⟨_, Heap.get?_push_size _ rfl, rfl, rfl⟩ q)
  | true => exact wpAny_pyIter_ascii ha (pi_one (tk := s.toks) I _ (turn_str _ z t "str_ascii_iterator" (.inl rfl)) ⟨_, Heap.get?_push_size _ rfl, rfl, rfl⟩ q)
include hK in
theorem i_seq {e : Expr} {we : WE} (he : PE X e (LE C W we)) (me : MonoE we) : PI X tg e (LI C W fun env S K E => we env S (fun x S1 => wpSeq x S1 fun xs g => K xs g S1) E) := by
  refine ⟨fun pins s σ H R I ⟨env, S, r, q⟩ => ?_⟩
  refine thn (he.run pins s σ H (fun x H1 => ∃ d S1, RV C.K H1 x d ∧ Ext C.K H H1 ∧ Rl C σ H1 env S1 ∧ wpSeq d S1 fun items guard => ∀ J H1, Ext C.K H H1 → Rl C σ H1 env S1 → ItOk C H1 J items guard → R J H1) I
    (LE.use me r q (fun _ _ z => z) fun d1 S1 v1 H1 x1 r1 q1 k1 => ⟨d1, S1, q1, x1, r1, k1⟩)) fun u s1 ⟨x, H1, I1, rx, d, S1, q1, x1, r1, k⟩ => ?_
  unfold wpSeq at k
  split at k
  · cases q1 with
    | tup t q =>
      cases rx
      exact it_tup I1 (hK ▸ t) (hK ▸ k _ H1 x1 r1 (itok_tup t q))
  · cases q1 with
    | rl t q =>
      cases rx
      exact it_list I1 (hK ▸ t.sq) (hK ▸ k _ H1 x1 r1 (itok_ro t q))
  · obtain ⟨xs, e1, k⟩ := k
    cases q1
    cases rx
    obtain ⟨vs, e2, _⟩ := r1.2.2.lst e1
    exact it_list I1 (.of e2) (hK ▸ k _ H1 x1 r1 itok_list)
  · cases q1
    obtain ⟨t, rfl⟩ := rx
    exact it_str I1 (k _ H1 x1 r1 itok_str)
  · exact k.elim
theorem i_rng1 {a : Expr} {p pos : Pos} {wa : WE} (hg : Gl X "range") (hm : X.mg "range" = none) (ha : PE X a (LE C W wa)) (ma : MonoE wa) (h1 : notStar a = true) :
    PI X tg (.Call (.Name "range" p) [a] [] pos) (LI C W fun env S K E => wa env S (fun x S1 => ∃ j, x = .int j ∧ small j ∧ K (rngL 0 j) (fun _ => True) S1) E) := by
  refine ⟨fun pins s σ H R I ⟨env, S, r, q⟩ => (pi_range1 hg hm (pa_cons ha pa_nil (star1 h1)) (star1 h1)).run pins s σ H R I (LE.use ma r q (fun _ _ z => z) fun d S1 v H1 x1 r1 q1 ⟨j, e, sm, k⟩ => ?_)⟩
  subst e
  cases q1
  refine ⟨j, rfl, sm.1, sm.2, ?_⟩
  have h := k (Itr 0 (j - 0).toNat) H1 x1 r1 itok_rng
  rw [Int.sub_zero] at h
  exact h
theorem i_rng2 {a b : Expr} {p pos : Pos} {wa wb : WE} (hg : Gl X "range") (hm : X.mg "range" = none) (ha : PE X a (LE C W wa)) (hb : PE X b (LE C W wb)) (ma : MonoE wa) (mb : MonoE wb) (h1 : notStar a = true) (h2 : notStar b = true) :
    PI X tg (.Call (.Name "range" p) [a, b] [] pos) (LI C W fun env S K E => wa env S (fun x S1 => wb env S1 (fun y S2 => ∃ i j, x = .int i ∧ y = .int j ∧ small i ∧ small j ∧ K (rngL i j) (fun _ => True) S2) E) E) := by
  have e2 : starEach [a, b] X.env = [(false, eval a X.env), (false, eval b X.env)] := (star1 h1).trans (by rw [star1 h2]; rfl)
  refine ⟨fun pins s σ H R I ⟨env, S, r, q⟩ => (pi_range2 hg hm (pa_cons ha (pa_cons hb pa_nil (star1 h2)) (star1 h1)) e2 (star1 h2)).run pins s σ H R I (LE.use ma r q (fun _ _ z => z) fun d S1 v H1 x1 r1 q1 k1 =>
    LE.use mb r1 k1 (XW.ext x1) fun d2 S2 v2 H2 x2 r2 q2 ⟨i, j, e1, e2, s1, s2, k⟩ => ?_)⟩
  subst e1 e2
  cases q1
  cases q2
  exact ⟨i, j, rfl, ⟨s1.1, s1.2, s2.1, s2.2⟩, k _ H2 (x1.trans x2) r2 itok_rng⟩
theorem itok_enuL {H0 : Hp} {a : Addr} {xs : List D} : ItOk C H0 (Ite C.K a) (enuL xs) (fun S => S a = some (.lst xs)) := by
  have hl : (enuL xs).length = xs.length := by unfold enuL; rw [List.length_zipWith, List.length_range, Nat.min_self]
  refine ⟨fun H => ∃ vs, SqL C.K H a vs ∧ RVs C.K H vs xs, fun i H x H' => ∃ T y, x = .ref T ∧ H T = none ∧ H' = L2.upd H T (.tup [.int (i : Nat), y]) ∧ ∃ vs, RVs C.K H vs xs ∧ vs[i]? = some y, ⟨fun i H hi ⟨vs, h, r⟩ => ?_, fun H ⟨vs, h, r⟩ => ?_, fun i H x H' hi ⟨vs, h, r⟩ y => ?_⟩, fun H S _ ok g => ?_, fun i H S x H' hi _ ok g ⟨T, y, e1, e2, e3, vs, r, h⟩ => ?_⟩
  · have h2 : i < vs.length := by rw [r.length, ← hl]; exact hi
    exact ⟨vs, vs[i], h, List.getElem?_eq_getElem h2⟩
  · exact ⟨vs, h, by rw [hl]; exact Nat.le_of_eq r.length⟩
  · obtain ⟨T, z, e1, e2, e3, f⟩ := y
    exact ⟨T, z, e1, e2, e3, vs, r, f vs h⟩
  · obtain ⟨vs, e, r⟩ := ok.lst g
    exact ⟨vs, .of e, r⟩
  · subst e1 e3
    obtain ⟨d, e, q⟩ := r.get' h
    have x1 : Ext C.K H (L2.upd H T (.tup [.int (i : Nat), y])) := Ext.new e2
    refine ⟨x1, ok.new0 e2, .tup [.int (i : Nat), d], ?_, .tup (SqT.of upd_same) (.cons (.int _) (.cons (q.ext x1) .nil))⟩
    unfold enuL
    rw [List.getElem?_zipWith, List.getElem?_range (by rw [← hl]; exact hi), e]
theorem itok_enuRo {H0 : Hp} {a : Addr} {vs : List V} {xs : List D} (t : RoL C.K H0 a vs) (r : RVs C.K H0 vs xs) : ItOk C H0 (Ite C.K a) (enuL xs) (fun _ => True) := by
  have hl : (enuL xs).length = xs.length := by unfold enuL; rw [List.length_zipWith, List.length_range, Nat.min_self]
  refine ⟨fun H => SqL C.K H a vs, YPair (fun i => some (.int (i : Nat))) (fun i => vs[i]?), ⟨fun i H hi h => ?_, fun H h => ?_, fun i H x H' hi h y => ?_⟩, fun H S x _ _ => ((x a vs).2.1 t).sq, fun i H S x H' hi xt ok _ ⟨T, x1, y1, e1, e2, e3, f1, f2⟩ => ?_⟩
  · have h2 : i < vs.length := by rw [r.length, ← hl]; exact hi
    exact ⟨vs, vs[i], h, List.getElem?_eq_getElem h2⟩
  · exact ⟨vs, h, by rw [hl]; exact Nat.le_of_eq r.length⟩
  · obtain ⟨T, z, e1, e2, e3, f⟩ := y
    exact ⟨T, .int (i : Nat), z, e1, e2, e3, rfl, f vs h⟩
  · subst e1 e3
    cases f1
    obtain ⟨d, e, q⟩ := (r.ext xt).get' f2
    have x2 : Ext C.K H (L2.upd H T (.tup [.int (i : Nat), y1])) := Ext.new e2
    refine ⟨x2, ok.new0 e2, .tup [.int (i : Nat), d], ?_, .tup (SqT.of upd_same) (.cons (.int _) (.cons (q.ext x2) .nil))⟩
    unfold enuL
    rw [List.getElem?_zipWith, List.getElem?_range (by rw [← hl]; exact hi), e]
theorem itok_enuT {H0 : Hp} {a : Addr} {vs : List V} {xs : List D} (t : SqT C.K H0 a vs) (r : RVs C.K H0 vs xs) : ItOk C H0 (ItE C.K a) (enuL xs) (fun _ => True) := by
  have hl : (enuL xs).length = xs.length := by unfold enuL; rw [List.length_zipWith, List.length_range, Nat.min_self]
  refine ⟨fun H => SqT C.K H a vs, YPair (fun i => some (.int (i : Nat))) (fun i => vs[i]?), ⟨fun i H hi h => ?_, fun H h => ?_, fun i H x H' hi h y => ?_⟩, fun H S x _ _ => (x a vs).1 t, fun i H S x H' hi xt ok _ ⟨T, x1, y1, e1, e2, e3, f1, f2⟩ => ?_⟩
  · have h2 : i < vs.length := by rw [r.length, ← hl]; exact hi
    exact ⟨vs, vs[i], h, List.getElem?_eq_getElem h2⟩
  · exact ⟨vs, h, by rw [hl]; exact r.length⟩
  · obtain ⟨T, z, e1, e2, e3, f⟩ := y
    exact ⟨T, .int (i : Nat), z, e1, e2, e3, rfl, f vs h⟩
  · subst e1 e3
    cases f1
    obtain ⟨d, e, q⟩ := (r.ext xt).get' f2
    have x2 : Ext C.K H (L2.upd H T (.tup [.int (i : Nat), y1])) := Ext.new e2
    refine ⟨x2, ok.new0 e2, .tup [.int (i : Nat), d], ?_, .tup (SqT.of upd_same) (.cons (.int _) (.cons (q.ext x2) .nil))⟩
    unfold enuL
    rw [List.getElem?_zipWith, List.getElem?_range (by rw [← hl]; exact hi), e]
include hK in
theorem i_enu {a : Expr} {p pos tpos : Pos} {elts : List Expr} {kk : Nat} {wa : WE} (hg : Gl X "enumerate") (hm : X.mg "enumerate" = none) (ha : PE X a (LE C W wa)) (ma : MonoE wa) (h1 : notStar a = true) :
    PI X (.Tuple elts kk tpos) (.Call (.Name "enumerate" p) [a] [] pos) (LI C W fun env S K E => wa env S (fun x S1 => (∃ xs, (x = .tup xs ∨ x = .rl xs) ∧ K (enuL xs) (fun _ => True) S1) ∨
      (∃ a xs, x = .ref a ∧ S1 a = some (.lst xs) ∧ K (enuL xs) (fun S' => S' a = some (.lst xs)) S1)) E) := by
  refine ⟨fun pins s σ H R I ⟨env, S, r, q⟩ => (pi_enu hg hm (pa_cons ha pa_nil (star1 h1)) (star1 h1)).run pins s σ H R I (LE.use ma r q (fun _ _ z => z) fun d S1 v H1 x1 r1 q1 k => ?_)⟩
  rcases k with ⟨xs, e, k⟩ | ⟨b, xs, e, e2, k⟩
  · rcases e with e | e
    · subst e
      cases q1 with
      | tup t rr => exact ⟨_, _, rfl, .inr ⟨hK ▸ t, hK ▸ k _ H1 x1 r1 (itok_enuT t rr)⟩⟩
    · subst e
      cases q1 with
      | rl t rr => exact ⟨_, _, rfl, .inl ⟨hK ▸ t.sq, hK ▸ k _ H1 x1 r1 (itok_enuRo t rr)⟩⟩
  · subst e
    cases q1
    obtain ⟨vs, e3, rr⟩ := r1.2.2.lst e2
    exact ⟨b, vs, rfl, .inl ⟨.of e3, hK ▸ k _ H1 x1 r1 itok_enuL⟩⟩
theorem zipL_len {xs ys : List D} : (zipL xs ys).length = min xs.length ys.length := by unfold zipL; rw [List.length_zipWith]
theorem itok_zipL {H0 : Hp} {a b : Addr} {xs ys : List D} : ItOk C H0 (Itz C.K a b) (zipL xs ys) (fun S => S a = some (.lst xs) ∧ S b = some (.lst ys)) := by
  refine ⟨fun H => ∃ vs us, SqL C.K H a vs ∧ RVs C.K H vs xs ∧ SqL C.K H b us ∧ RVs C.K H us ys, fun i H x H' => ∃ T y z, x = .ref T ∧ H T = none ∧ H' = L2.upd H T (.tup [y, z]) ∧ ∃ vs us, RVs C.K H vs xs ∧ vs[i]? = some y ∧ RVs C.K H us ys ∧ us[i]? = some z, ⟨fun i H hi ⟨vs, us, h, r, h', r'⟩ => ?_, fun H ⟨vs, us, h, r, h', r'⟩ => ?_, fun i H x H' hi ⟨vs, us, h, r, h', r'⟩ y => ?_⟩, fun H S _ ok g => ?_, fun i H S x H' hi _ ok g ⟨T, y, z, e1, e2, e3, vs, us, r, h, r', h'⟩ => ?_⟩
  · rw [zipL_len, ← r.length, ← r'.length] at hi
    have h2 : i < vs.length := Nat.lt_of_lt_of_le hi (Nat.min_le_left _ _)
    have h3 : i < us.length := Nat.lt_of_lt_of_le hi (Nat.min_le_right _ _)
    exact ⟨vs, us, vs[i], us[i], h, h', List.getElem?_eq_getElem h2, List.getElem?_eq_getElem h3⟩
  · refine ⟨vs, us, h, h', ?_⟩
    rw [zipL_len, r.length, r'.length]
    omega
  · obtain ⟨T, y, z, e1, e2, e3, f, f'⟩ := y
    exact ⟨T, y, z, e1, e2, e3, vs, us, r, f vs h, r', f' us h'⟩
  · obtain ⟨vs, e, r⟩ := ok.lst g.1
    obtain ⟨us, e', r'⟩ := ok.lst g.2
    exact ⟨vs, us, .of e, r, .of e', r'⟩
  · subst e1 e3
    obtain ⟨d, e, q⟩ := r.get' h
    obtain ⟨d', e', q'⟩ := r'.get' h'
    have x1 : Ext C.K H (L2.upd H T (.tup [y, z])) := Ext.new e2
    refine ⟨x1, ok.new0 e2, .tup [d, d'], ?_, .tup (SqT.of upd_same) (.cons (q.ext x1) (.cons (q'.ext x1) .nil))⟩
    unfold zipL
    rw [List.getElem?_zipWith, e, e']
theorem itok_zipT {H0 : Hp} {a b : Addr} {vs us : List V} {xs ys : List D} (t : SqT C.K H0 a vs) (r : RVs C.K H0 vs xs) (t' : SqT C.K H0 b us) (r' : RVs C.K H0 us ys) : ItOk C H0 (RZ.ItzT C.K a b) (zipL xs ys) (fun _ => True) := by
  refine ⟨fun H => SqT C.K H a vs ∧ SqT C.K H b us, YPair (fun i => vs[i]?) (fun i => us[i]?), ⟨fun i H hi h => ?_, fun H h => ?_, fun i H x H' hi h y => ?_⟩, fun H S x _ _ => ⟨(x a vs).1 t, (x b us).1 t'⟩, fun i H S x H' hi xt ok _ ⟨T, y, z, e1, e2, e3, f1, f2⟩ => ?_⟩
  · rw [zipL_len, ← r.length, ← r'.length] at hi
    have h2 : i < vs.length := Nat.lt_of_lt_of_le hi (Nat.min_le_left _ _)
    have h3 : i < us.length := Nat.lt_of_lt_of_le hi (Nat.min_le_right _ _)
    exact ⟨vs, us, vs[i], us[i], h.1, h.2, List.getElem?_eq_getElem h2, List.getElem?_eq_getElem h3⟩
  · refine ⟨vs, us, h.1, h.2, ?_⟩
    rw [zipL_len, r.length, r'.length]
    omega
  · obtain ⟨T, y, z, e1, e2, e3, f, f'⟩ := y
    exact ⟨T, y, z, e1, e2, e3, f vs h.1, f' us h.2⟩
  · subst e1 e3
    obtain ⟨d, e, q⟩ := (r.ext xt).get' f1
    obtain ⟨d', e', q'⟩ := (r'.ext xt).get' f2
    have x2 : Ext C.K H (L2.upd H T (.tup [y, z])) := Ext.new e2
    refine ⟨x2, ok.new0 e2, .tup [d, d'], ?_, .tup (SqT.of upd_same) (.cons (q.ext x2) (.cons (q'.ext x2) .nil))⟩
    unfold zipL
    rw [List.getElem?_zipWith, e, e']
include hK in
theorem i_zip {a b : Expr} {p pos tpos : Pos} {elts : List Expr} {kk : Nat} {wa wb : WE} (hg : Gl X "zip") (hm : X.mg "zip" = none) (ha : PE X a (LE C W wa)) (hb : PE X b (LE C W wb)) (ma : MonoE wa) (mb : MonoE wb) (h1 : notStar a = true) (h2 : notStar b = true) :
    PI X (.Tuple elts kk tpos) (.Call (.Name "zip" p) [a, b] [] pos) (LI C W fun env S K E => wa env S (fun x S1 => wb env S1 (fun y S2 => wpZip x y S2 fun xs g => K xs g S2) E) E) := by
  refine ⟨fun pins s σ H R I ⟨env, S, r, q⟩ => (RZ.pi_zipA hg hm (pa_cons ha (pa_cons hb pa_nil (star1 h2)) (star1 h1)) (star1 h1) (starAll (es := [b]) (by rw [List.all_cons, h2]; rfl))).run pins s σ H R I (LE.use ma r q (fun _ _ z => z) fun d S1 v H1 x1 r1 q1 k1 =>
    LE.use mb r1 k1 (XW.ext x1) fun d2 S2 v2 H2 x2 r2 q2 k => ?_)⟩
  rcases k with ⟨xs, ys, e1, e2, k⟩ | ⟨a', b', xs, ys, e1, e2, e3, e4, k⟩
  · subst e1 e2
    cases q1 with
    | tup t rr =>
      cases q2 with
      | tup t' rr' => exact ⟨_, _, _, _, rfl, .inr ⟨hK ▸ (x2 _ _).1 t, hK ▸ t', hK ▸ k _ H2 (x1.trans x2) r2 (itok_zipT ((x2 _ _).1 t) (rr.ext x2) t' rr')⟩⟩
  · subst e1 e2
    cases q1
    cases q2
    obtain ⟨vs, e5, rr⟩ := r2.2.2.lst e3
    obtain ⟨us, e6, rr'⟩ := r2.2.2.lst e4
    exact ⟨_, _, _, _, rfl, .inl ⟨.of e5, .of e6, hK ▸ k _ H2 (x1.trans x2) r2 itok_zipL⟩⟩
/-! ### targets -/
def GoodT (own : List Nat) (σ σ' : St2) : Prop := wipe σ' own = wipe σ own
mutual
def tgIn (own : List Nat) : Tg → Bool
  | .nm i => own.contains i
  | .tup ts => tgsIn own ts
def tgsIn (own : List Nat) : Tgs → Bool
  | .nil => true
  | .cons t ts => tgIn own t && tgsIn own ts
end
/-- a target's reading -/
def LG (C : Cn) (t : Tg) : TG := fun v σ H Q => ∃ d env env2 S, RV C.K H v d ∧ Rl C σ H env S ∧ asgT t d env = some env2 ∧ ∀ σ2, Rl C σ2 H env2 S → (∀ own, tgIn own t = true → GoodT own σ σ2) → Q σ2 H
def LGs (C : Cn) (t : Tgs) : TGs := fun vs σ H Q => ∃ ds env env2 S, RVs C.K H vs ds ∧ Rl C σ H env S ∧ asgTs t ds env = some env2 ∧ ∀ σ2, Rl C σ2 H env2 S → (∀ own, tgsIn own t = true → GoodT own σ σ2) → Q σ2 H
theorem wipe_set {σ : St2} {i : Nat} {v : Option V} : ∀ {own : List Nat}, i ∈ own → wipe (σ.set i v) own = wipe σ own
  | [], h => by cases h
  | j :: own, h => by
    unfold wipe
    by_cases e : i ∈ own
    · rw [wipe_set e]
    · have ej : i = j := by
        rcases List.mem_cons.mp h with z | z
        · exact z
        · exact absurd z e
      subst ej
      have : ∀ (own : List Nat), i ∉ own → wipe (σ.set i v) own = (wipe σ own).set i v := by
        intro own
        induction own with
        | nil => intro _; rfl
        | cons k own ih =>
          intro hk
          unfold wipe
          rw [ih fun z => hk (List.mem_cons_of_mem _ z), List.set_comm _ _ fun z => hk (by rw [z]; exact List.mem_cons_self)]
      rw [this own e, List.set_set]
theorem g_name {i : Nat} {x : Str} {pos : Pos} (h : PG X (.Name x pos) (gName i)) : PG X (.Name x pos) (LG C (.nm i)) :=
  ⟨fun pins s σ H v u Q I rv ⟨d, env, env2, S, r, rl, e, k⟩ => h.run pins s σ H v u Q I rv (by
    cases e
    exact k _ (rl.set i r) fun own ho => wipe_set (by simpa [tgIn] using ho))⟩
theorem g_nil : PGs X [] (LGs C .nil) :=
  ⟨fun pins s σ H vs us Q I rv ⟨ds, env, env2, S, r, rl, e, k⟩ => pgs_nil.run pins s σ H vs us Q I rv (by
    cases r with
    | nil =>
      cases e
      exact ⟨rfl, k _ rl fun _ _ => rfl⟩
    | cons _ _ => cases e)⟩
theorem g_cons {e : Expr} {es : List Expr} {t : Tg} {ts : Tgs} (h1 : PG X e (LG C t)) (h2 : PGs X es (LGs C ts)) (hs : (assignEach (e :: es) X.env).map (·.2) = assign e X.env :: (assignEach es X.env).map (·.2)) : PGs X (e :: es) (LGs C (.cons t ts)) :=
  ⟨fun pins s σ H vs us Q I rv ⟨ds, env, env2, S, r, rl, ea, k⟩ => (pgs_cons h1 h2 hs).run pins s σ H vs us Q I rv (by
    cases r with
    | nil => cases ea
    | @cons v d vs ds r1 r2 =>
      simp only [asgTs] at ea
      cases e1 : asgT t d env with
      | none => rw [e1] at ea; cases ea
      | some env1 =>
        rw [e1] at ea
        refine ⟨v, vs, rfl, d, env, env1, S, r1, rl, e1, fun σ1 rl1 g1 => ⟨ds, env1, env2, S, r2, rl1, ea, fun σ2 rl2 g2 => k σ2 rl2 fun own ho => ?_⟩⟩
        unfold tgsIn at ho
        rw [Bool.and_eq_true] at ho
        exact (g2 own ho.2).trans (g1 own ho.1))⟩
include hK in
theorem g_tup {es : List Expr} {k : Nat} {pos : Pos} {ts : Tgs} (hc : X.calm = true) (h : PGs X es (LGs C ts)) (n : Nat) (hn : (assignEach es X.env).length = n) (hst : (assignEach es X.env).findIdx? (·.1) = none)
    (hl : ∀ ds env env2, asgTs ts ds env = some env2 → ds.length = n) : PG X (.Tuple es k pos) (LG C (.tup ts)) :=
  ⟨fun pins s σ H v u Q I rv ⟨d, env, env2, S, r, rl, ea, kk⟩ => (pg_tup hc h hn hst).run pins s σ H v u Q I rv (by
    unfold asgT at ea
    cases r with
    | tup t r =>
      exact ⟨_, _, rfl, hK ▸ t, by rw [r.length]; exact hl _ _ _ ea, _, env, env2, S, r, rl, ea, fun σ2 rl2 g => kk σ2 rl2 fun own ho => g own ho⟩
    | _ => cases ea)⟩
/-! ### comprehensions -/
theorem wipeE_len {env : Env} : ∀ {own : List Nat}, (wipeE env own).length = env.length
  | [] => rfl
  | _ :: own => by unfold wipeE; rw [List.length_set, wipeE_len]
theorem Rl.wipe {σ : St2} {H : Hp} {env : Env} {S : Store} (r : Rl C σ H env S) : ∀ (own : List Nat), Rl C (L2.wipe σ own) H (wipeE env own) S
  | [] => r
  | i :: own => by
    have ih := Rl.wipe r own
    unfold L2.wipe wipeE
    refine ⟨by rw [List.length_set, List.length_set]; exact ih.1, fun j d hj => ?_, r.2.2⟩
    by_cases e : i = j
    · subst e
      by_cases hl : i < (wipeE env own).length
      · rw [List.getElem?_set_self hl] at hj; cases hj
      · rw [List.getElem?_eq_none (by rw [List.length_set]; omega)] at hj; cases hj
    · rw [List.getElem?_set_ne e] at hj ⊢
      exact ih.2.1 j d hj
theorem wipe_wipe {σ : St2} : ∀ (own : List Nat), L2.wipe (L2.wipe σ own) own = L2.wipe σ own := by
  have out : ∀ (own l : List Nat) (σ : St2), (∀ i ∈ own, i ∈ l) → L2.wipe (L2.wipe σ own) l = L2.wipe σ l := by
    intro own
    induction own with
    | nil => intro l σ _; rfl
    | cons i own ih =>
      intro l σ h
      show L2.wipe ((L2.wipe σ own).set i none) l = _
      rw [wipe_set (h i List.mem_cons_self)]
      exact ih l σ fun j hj => h j (List.mem_cons_of_mem _ hj)
  exact fun own => out own own σ fun _ h => h
def noW : WX := fun _ _ _ _ => False
theorem drop_cons {α : Type} {l : List α} {i : Nat} {d : α} (h : l[i]? = some d) : l.drop i = d :: l.drop (i + 1) := by
  obtain ⟨hl, e⟩ := List.getElem?_eq_some_iff.mp h
  rw [List.drop_eq_getElem_cons hl, e]
theorem compLoop_guard {guard : Store → Prop} {G : D → Option Env} {C V : Env → Store → PQ → Prop} {p : Addr} {Q : Store → Prop} : ∀ {items : List D} {S : Store}, compLoop guard G C V p Q items S → guard S
  | [], _, h => h.1
  | _ :: _, _, h => h.1
theorem s_comp {elt iter tgE : Expr} {ifs : List Expr} {scope : Scope} {own : List (Str × Nat)} {t : Tg} {wi : WI} {wc wv : WE} (hc : X.calm = true) (hN : X.N.Nodup)
    (hi : PI X tgE iter (LI C W wi)) (mi : MonoI wi) (ok : BlkOk X.N X.env.scope scope own)
    (hg : ∀ (s : Shared) (H : Hp) (a : Addr) (cl : List (Str × Addr)) (fp : List Addr), PG (X.blk s H scope (compEnvC scope cl a X.env) fp) tgE (LG C t))
    (ht : ∀ (s : Shared) (H : Hp) (a : Addr) (cl : List (Str × Addr)) (fp : List Addr), PTs (X.blk s H scope (compEnvC scope cl a X.env) fp) ifs (LT C noW wc))
    (he : ∀ (s : Shared) (H : Hp) (a : Addr) (cl : List (Str × Addr)) (fp : List Addr), PE (X.blk s H scope (compEnvC scope cl a X.env) fp) elt (LE C noW wv))
    (mc : MonoE wc) (mv : MonoE wv) (hin : tgIn (own.map (·.2)) t = true) : ∀ σ H Q, LE C W (fun env S Q E => wi env S (fun items guard S1 => ∀ p, S1 p = none →
      Hold (compLoop guard (fun d => asgT t d (wipeE env (own.map (·.2)))) (fun env S Q => wc env S Q noX) (fun env S Q => wv env S Q noX) p (Q (.ref p)) items (S1.upd p (.lst [])))) E) σ H Q →
      tLc (LI C W wi) (LG C t) (LT C noW wc) (LE C noW wv) (own.map (·.2)) σ H Q := fun σ H Q ⟨env, S, r, q⟩ => by
  refine ⟨env, S, r, mi _ _ _ _ _ _ (fun items guard S1 k J H1 x1 r1 ⟨G, Y, hw, hG, hY⟩ p hp => ?_) (fun _ _ z => z) q⟩
  have k0 := (k p (r1.2.2.none_of hp)).out
  have xp : Ext C.K H1 (L2.upd H1 p (.lst [])) := Ext.new hp
  refine lc_it hw (fun i H' => ∃ S', Ext C.K H1 H' ∧ Rl C (L2.wipe σ (own.map (·.2))) H' (wipeE env (own.map (·.2))) S' ∧ compLoop guard (fun d => asgT t d (wipeE env (own.map (·.2)))) (fun env S Q => wc env S Q noX) (fun env S Q => wv env S Q noX) p (QV C H Q (.ref p)) (items.drop i) S')
    ⟨_, xp, (r1.wipe _).ext xp (r1.2.2.new (c := .lst []) hp ⟨[], upd_same, .nil⟩), k0⟩ (fun i H' _ ⟨S', x', r', k'⟩ => hG H' S' x' r'.2.2 (compLoop_guard k')) (fun i x H2 H3 hi' ⟨S', x', r', k'⟩ y => ?_) fun H' ⟨S', x', r', k'⟩ => ?_
  · obtain ⟨x3, ok3, d, ed, rv⟩ := hY i H2 S' x H3 hi' x' r'.2.2 (compLoop_guard k') y
    rw [drop_cons ed] at k'
    obtain ⟨_, env2, e2, k'⟩ := k'
    refine ⟨d, _, env2, S', rv, r'.ext x3 ok3, e2, fun σ2 r2 good => ⟨(good _ hin).trans (wipe_wipe _), env2, S', r2, mc _ _ _ _ _ _ (fun b S3 ⟨c, ec, z⟩ => ⟨c, ec, fun H4 x4 ok4 => ?_⟩) (fun _ _ z => z.elim) k'⟩⟩
    have x34 : Ext C.K H1 H4 := x'.trans (x3.trans x4)
    cases c with
    | false => exact ⟨S3, x34, r'.ext (x3.trans x4) ok4, z⟩
    | true =>
      refine ⟨env2, S3, r2.ext x4 ok4, mv _ _ _ _ _ _ (fun yd S5 z5 v5 H5 x5 ok5 rv5 => ?_) (fun _ _ z => z.elim) z⟩
      obtain ⟨acc, ea, hl, z5⟩ := z5
      obtain ⟨vs, eh, rs⟩ := ok5.lst ea
      have w := ok5.put (p := p) (o := .lst (vs ++ [v5])) (c := .lst (acc ++ [yd])) ea
      obtain ⟨u, hu, hn⟩ := (ok5 p _ ea).ups
      have xx : Ext C.K H5 (L2.upd H5 p (.lst (vs ++ [v5]))) := Ext.at hu hn
      refine ⟨vs, eh, by rw [rs.length]; exact hl, _, x34.trans (x5.trans xx), r'.ext (x3.trans (x4.trans (x5.trans xx))) (w ⟨_, upd_same, (rs.ext xx).append (.cons (rv5.ext xx) .nil)⟩).2, z5⟩
  · rw [List.drop_length] at k'
    exact k'.2 _ _ (x1.trans x') r'.2.2 (.ref p)
end
end SW
/-! SW, part J: statements. -/
namespace SW
open PySem PySem.Spec PyProof.Rows L2
abbrev WS := Env → Store → Kt → Prop
def MonoS (w : WS) : Prop := ∀ env S K K', Kt.le K K' → w env S K → w env S K'
def KD (C : Cn) (W : WX) (H : Hp) (D : Ends) : Kt where
  nx := fun env' S' => ∀ σ' H', Ext C.K H H' → Rl C σ' H' env' S' → D.nx σ' H'
  rt := QV C H D.rt
  bk := fun env' S' => ∀ σ' H', Ext C.K H H' → Rl C σ' H' env' S' → D.bk σ' H'
  ct := fun env' S' => ∀ σ' H', Ext C.K H H' → Rl C σ' H' env' S' → D.ct σ' H'
  ex := fun env' c S' => ∀ σ' H', Ext C.K H H' → Rl C σ' H' env' S' → W (.ref (C.ca c)) none σ' H'
theorem KD.ext {C : Cn} {W : WX} {H H' : Hp} {D : Ends} (x : Ext C.K H H') : Kt.le (KD C W H D) (KD C W H' D) :=
  ⟨fun _ _ h σ H2 x2 r => h σ H2 (x.trans x2) r, fun _ _ h => h.ext x, fun _ _ h σ H2 x2 r => h σ H2 (x.trans x2) r, fun _ _ h σ H2 x2 r => h σ H2 (x.trans x2) r, fun _ _ _ h σ H2 x2 r => h σ H2 (x.trans x2) r⟩
theorem kxw {C : Cn} {W : WX} {H0 H : Hp} {D : Ends} {σ : St2} {env : Env} {S : Store} (x0 : Ext C.K H0 H) (r : Rl C σ H env S) : ∀ c S', (KD C W H0 D).ex env c S' → XW C W σ H c S' := fun _ _ z H' x ok => z σ H' (x0.trans x) (r.ext x ok)
theorem kx {C : Cn} {W : WX} {H : Hp} {D : Ends} {σ : St2} {env : Env} {S : Store} (r : Rl C σ H env S) : ∀ c S', (KD C W H D).ex env c S' → XW C W σ H c S' := kxw Ext.refl r
theorem kxx {C : Cn} {W : WX} {H H1 : Hp} {D : Ends} {σ : St2} {env : Env} {S : Store} (r : Rl C σ H env S) (x1 : Ext C.K H H1) : ∀ c S', (KD C W H D).ex env c S' → XW C W σ H1 c S' := fun c S' z => XW.ext x1 c S' (kx r c S' z)
def LS (C : Cn) (W : WX) (w : WS) : TS := fun D σ H => ∃ env S, Rl C σ H env S ∧ w env S (KD C W H D)
theorem _root_.L2.PS.mono {X : Cx} {s : Stmt} {t t' : TS} (h : PS X s t) (m : ∀ D σ H, t' D σ H → t D σ H) : PS X s t' := ⟨fun pins s σ H D I q => h.run pins s σ H D I (m D σ H q)⟩
theorem _root_.L2.PSs.mono {X : Cx} {s : List Stmt} {t t' : TS} (h : PSs X s t) (m : ∀ D σ H, t' D σ H → t D σ H) : PSs X s t' := ⟨fun pins s σ H D I q => h.run pins s σ H D I (m D σ H q)⟩
section
variable {X : Cx} {C : Cn} {W : WX} (hK : X.K = C.K)
theorem t_nil : PSs X [] (LS C W fun env S K => K.nx env S) := pss_nil.mono fun D σ H ⟨env, S, r, q⟩ => q σ H Ext.refl r
theorem t_cons {s : Stmt} {ss : List Stmt} {w ws : WS} (h : PS X s (LS C W w)) (hs : PSs X ss (LS C W ws)) (m : MonoS w) (ms : MonoS ws) : PSs X (s :: ss) (LS C W fun env S K => w env S { K with nx := fun env' S' => ws env' S' K }) :=
  (pss_cons h hs).mono fun D σ H ⟨env, S, r, q⟩ => ⟨env, S, r, by
    refine m _ _ _ _ ?_ q
    exact ⟨fun env' S' z σ' H' x r' => ⟨env', S', r', ms _ _ _ _ (KD.ext x) z⟩, fun _ _ z => z, fun _ _ z => z, fun _ _ z => z, fun _ _ _ z => z⟩⟩
theorem t_pass {pos : Pos} : PS X (.Pass pos) (LS C W fun env S K => K.nx env S) := ps_pass.mono fun D σ H ⟨env, S, r, q⟩ => q σ H Ext.refl r
theorem t_brk {pos : Pos} : PS X (.Break pos) (LS C W fun env S K => K.bk env S) := ps_break.mono fun D σ H ⟨env, S, r, q⟩ => q σ H Ext.refl r
theorem t_cont {pos : Pos} : PS X (.Continue pos) (LS C W fun env S K => K.ct env S) := ps_continue.mono fun D σ H ⟨env, S, r, q⟩ => q σ H Ext.refl r
theorem t_ret {e : Expr} {pos : Pos} {we : WE} (he : PE X e (LE C W we)) (me : MonoE we) : PS X (.Return (some e) pos) (LS C W fun env S K => we env S K.rt (K.ex env)) := (ps_ret he).mono fun D σ H ⟨env, S, r, q⟩ => LE.use me r q (kx r) fun d S1 v H1 x1 r1 q1 k => QV.at (QV.ext x1 _ _ k) r1.2.2 q1
theorem t_retN {pos : Pos} : PS X (.Return none pos) (LS C W fun env S K => K.rt .non S) := ps_retN.mono fun D σ H ⟨env, S, r, q⟩ => QV.at q r.2.2 .non
theorem t_ex {e : Expr} {pos : Pos} {we : WE} (he : PE X e (LE C W we)) (me : MonoE we) (hs : swapsWith e none pos.line X.env = pure false) : PS X (.Expr e pos) (LS C W fun env S K => we env S (fun _ S1 => K.nx env S1) (K.ex env)) :=
  (ps_expr he hs).mono fun D σ H ⟨env, S, r, q⟩ => LE.use me r q (kx r) fun d S1 v H1 x1 r1 _ k => k σ H1 x1 r1
theorem t_ite {c : Expr} {a b : List Stmt} {pos : Pos} {wc : WE} {wa wb : WS} (hc : PT X c (LT C W wc)) (ha : PSs X a (LS C W wa)) (hb : PSs X b (LS C W wb)) (mc : MonoE wc) (ma : MonoS wa) (mb : MonoS wb) :
    PS X (.If c a b pos) (LS C W fun env S K => wc env S (fun x S1 => ∃ c, x = .bl c ∧ if c = true then wa env S1 K else wb env S1 K) (K.ex env)) :=
  (ps_if hc ha hb).mono fun D σ H ⟨env, S, r, q⟩ => LT.use mc r q (kx r) fun d S1 ⟨c, e, k⟩ => ⟨c, e, fun H1 x1 r1 => by
    cases c with
    | true => exact ⟨env, S1, r1, ma _ _ _ _ (KD.ext x1) k⟩
    | false => exact ⟨env, S1, r1, mb _ _ _ _ (KD.ext x1) k⟩⟩
theorem t_asg {tg e : Expr} {pos : Pos} {t : Tg} {we : WE} (he : PE X e (LE C W we)) (me : MonoE we) (hg : PG X tg (LG C t)) (hs : swapsWithSole [tg] e pos.line X.env = pure false) (hw : swappedStores [tg] e X.env = pure none) (h1 : (assignEach [tg] X.env).map (·.2) = [assign tg X.env]) :
    PS X (.Assign [tg] e pos) (LS C W fun env S K => we env S (fun d S1 => ∃ env2, asgT t d env = some env2 ∧ K.nx env2 S1) (K.ex env)) :=
  (ps_asg he hg hs hw h1).mono fun D σ H ⟨env, S, r, q⟩ => LE.use me r q (kx r) fun d S1 v H1 x1 r1 q1 ⟨env2, e2, k⟩ => ⟨d, env, env2, S1, q1, r1, e2, fun σ2 r2 _ => k σ2 H1 x1 r2⟩
/-- a name that is stored: the swapped comprehension's form -/
theorem t_asgL {i : Nat} {tg e : Expr} {pos : Pos} {te : TE} {we : WE} (hp : PS X (.Assign [tg] e pos) (tAsg te (gName i))) (hq : ∀ σ H Q, LE C W we σ H Q → te σ H Q) (me : MonoE we) :
    PS X (.Assign [tg] e pos) (LS C W fun env S K => we env S (fun d S1 => ∃ env2, asgT (.nm i) d env = some env2 ∧ K.nx env2 S1) (K.ex env)) :=
  hp.mono fun D σ H ⟨env, S, r, q⟩ => hq _ _ _ (LE.use me r q (kx r) fun d S1 v H1 x1 r1 q1 ⟨env2, e2, k⟩ => by
    cases e2
    exact k _ H1 x1 (r1.set i q1))
include hK in
theorem t_asF {o e : Expr} {f : Nat} {fn : Str} {pos pos' : Pos} {wo we : WE} (F : Fcts C) (hn : C.nm f = fn) (hf : C.isF f) (ho : PE X o (LE C W wo)) (he : PE X e (LE C W we)) (mo : MonoE wo) (me : MonoE we) (hs : swapsWith e (some (.Attribute o fn pos')) pos.line X.env = pure false) :
    PS X (.Assign [.Attribute o fn pos'] e pos) (LS C W fun env S K => we env S (fun d S1 => wo env S1 (fun x S2 => ∃ p c fs, x = .ref p ∧ S2 p = some (.ins c fs) ∧ fs.length < 1000 ∧ K.nx env (S2.upd p (.ins c (putN f d fs)))) (K.ex env)) (K.ex env)) := by
  subst hn
  refine (ps_fld ho he hs).mono fun D σ H ⟨env, S, r, q⟩ => LE.use me r q (kx r) fun d S1 v H1 x1 r1 q1 k1 => LE.use mo r1 k1 (kxx r x1) fun d2 S2 v2 H2 x2 r2 q2 ⟨p, c, fs, e1, e2, hl, k⟩ => ?_
  subst e1
  cases q2
  obtain ⟨dx, fs', e3, q3, hc⟩ := r2.2.2.ins e2
  have w := r2.2.2.put (o := .ins (C.ca c) dx (putF (C.nm f) v fs')) (c := .ins c (putN f d fs)) e2
  obtain ⟨u, hu, hn⟩ := (r2.2.2 p _ e2).ups
  have xx : Ext C.K H2 (L2.upd H2 p (.ins (C.ca c) dx (putF (C.nm f) v fs'))) := Ext.at hu hn
  exact ⟨p, C.ca c, dx, fs', rfl, e3, hK ▸ F.cls c hc, hK ▸ F.noat c f hc hf, by rw [q3.length]; exact hl, k _ _ (x1.trans (x2.trans xx)) (r2.ext xx (w ⟨dx, _, upd_same, RFs.put F hf ((q1.ext x2).ext xx) (q3.ext xx), hc⟩).2)⟩
/-- a stored place of a list, of a dict -/
theorem setR (hu : X.A.units + 64 < cLine) : PSet X fun o i v H Q => ∃ dx dy dv S, RV C.K H o dx ∧ RV C.K H i dy ∧ RV C.K H v dv ∧ SOk C H S ∧
    ((∃ p xs k j, dx = .ref p ∧ S p = some (.lst xs) ∧ dy = .int k ∧ L2.ixN xs.length k = some j ∧ ∀ H', Ext C.K H H' → SOk C H' (S.upd p (.lst (xs.set j dv))) → Q H') ∨
     (∃ p kvs, dx = .ref p ∧ S p = some (.dic kvs) ∧ isKey dy = true ∧ kvs.length < sizeLine ∧ ∀ H', Ext C.K H H' → SOk C H' (S.upd p (.dic (putK dy dv kvs))) → Q H')) := by
  intro pins s σ H o i v ov iv u Q I ro ri rv h
  obtain ⟨dx, dy, dv, S, r1, r2, r3, ok, h⟩ := h
  rcases h with ⟨p, xs, k, j, rfl, e, rfl, hj, h⟩ | ⟨p, kvs, rfl, e, f, hl, h⟩
  · cases r1
    cases r2
    obtain ⟨vs, e1, q⟩ := ok.lst e
    have xx : Ext C.K H (L2.upd H p (.lst (vs.set j v))) := Ext.at e1 trivial
    exact set_list pins s σ H _ _ v ov iv u Q I ro ri rv ⟨p, vs, k, j, rfl, rfl, e1, by rw [q.length]; exact hj, h _ xx (ok.put (o := .lst (vs.set j v)) (c := .lst (xs.set j dv)) e ⟨_, upd_same, (q.ext xx).set (r3.ext xx) j⟩).2⟩
  · cases r1
    obtain ⟨ky, rfl⟩ := key_of f
    obtain ⟨l, e1, q⟩ := ok.dic e
    cases kV_of r2
    cases ro
    have xx : Ext C.K H (L2.upd H p (.dK (L2.putK l ky v))) := Ext.at e1 trivial
    exact d_setItem (by omega) I (.inl ⟨l, ky, e1, rfl, by rw [q.length]; exact hl, rfl⟩) ri rv fun s' I' => ⟨_, I', h _ xx (ok.put (o := .dK (L2.putK l ky v)) (c := .dic (putK (kD ky) dv kvs)) e ⟨_, upd_same, (q.ext xx).put (r3.ext xx)⟩).2⟩
theorem t_asS {o i e : Expr} {pos pos' : Pos} {wo wi we : WE} (hu : X.A.units + 64 < cLine) (ho : PE X o (LE C W wo)) (hi : PE X i (LE C W wi)) (he : PE X e (LE C W we)) (mo : MonoE wo) (mi : MonoE wi) (me : MonoE we)
    (hs : swapsWithSole [.Subscript o i pos'] e pos.line X.env = pure false) (hw : swappedStores [.Subscript o i pos'] e X.env = pure none)
    (ha : ∀ v, assign (.Subscript o i pos') X.env v = (do
      let ov ← holding [v] (eval o X.env)
      let iv ← holding [v, ov] (eval i X.env)
      standAt pos'
      holding [v, ov, iv] (setItem ov iv v)
      release [v, ov, iv] [])) :
    PS X (.Assign [.Subscript o i pos'] e pos) (LS C W fun env S K => we env S (fun d S1 => wo env S1 (fun x S2 => wi env S2 (fun y S3 =>
      (∃ p xs k j, x = .ref p ∧ S3 p = some (.lst xs) ∧ y = .int k ∧ L2.ixN xs.length k = some j ∧ K.nx env (S3.upd p (.lst (xs.set j d)))) ∨
      (∃ p kvs, x = .ref p ∧ S3 p = some (.dic kvs) ∧ isKey y = true ∧ kvs.length < sizeLine ∧ K.nx env (S3.upd p (.dic (putK y d kvs))))) (K.ex env)) (K.ex env)) (K.ex env)) := by
  refine (ps_asg he (pg_sub ho hi (setR (C := C) hu) ha) hs hw rfl).mono fun D σ H ⟨env, S, r, q⟩ => LE.use me r q (kx r) fun d S1 v H1 x1 r1 q1 k1 =>
    LE.use mo r1 k1 (kxx r x1) fun d2 S2 v2 H2 x2 r2 q2 k2 => LE.use mi r2 k2 (kxx r (x1.trans x2)) fun d3 S3 v3 H3 x3 r3 q3 k3 => ⟨d2, d3, d, S3, q2.ext x3, q3, q1.ext (x2.trans x3), r3.2.2, ?_⟩
  rcases k3 with ⟨p, xs, n, j, e1, e2, e3, e4, k⟩ | ⟨p, kvs, e1, e2, e3, e4, k⟩
  · exact .inl ⟨p, xs, n, j, e1, e2, e3, e4, fun H' x ok => k _ _ (x1.trans (x2.trans (x3.trans x))) (r3.ext x ok)⟩
  · exact .inr ⟨p, kvs, e1, e2, e3, e4, fun H' x ok => k _ _ (x1.trans (x2.trans (x3.trans x))) (r3.ext x ok)⟩
/-- x op= y by values -/
def RAug (C : Cn) (o : Bop) : V → V → Hp → VK → Prop := fun x y H Q => ∃ dx dy S, RV C.K H x dx ∧ RV C.K H y dy ∧ SOk C H S ∧ wpAug o dx dy fun z => QV C H Q z S
theorem aug_add : InOp X .Add (RAug C .add) := by
  intro pins s σ H x y u v Q I rx ry ⟨dx, dy, S, r1, r2, ok, h⟩
  unfold wpAug at h
  split at h <;> (try contradiction)
  · cases r1; cases r2
    exact iop_add pins s σ H _ _ u v Q I rx ry ⟨_, _, rfl, rfl, h.at ok (.int _)⟩
  · cases r1; cases r2
    exact iop_add_str pins s σ H _ _ u v Q I rx ry ⟨_, _, rfl, rfl, h.1, h.2.at ok (.str _)⟩
theorem aug_sub : InOp X .Sub (RAug C .sub) := by
  intro pins s σ H x y u v Q I rx ry ⟨dx, dy, S, r1, r2, ok, h⟩
  unfold wpAug at h
  split at h <;> (try contradiction)
  cases r1; cases r2
  exact iop_sub pins s σ H _ _ u v Q I rx ry ⟨_, _, rfl, rfl, h.at ok (.int _)⟩
theorem t_aug {i : Nat} {x : Str} {e : Expr} {op : Operator} {o : Bop} {pos pos' : Pos} {we : WE} (hop : InOp X op (RAug C o)) (hN : X.N.Nodup) (hi : X.N[i]? = some x) (hx : Loc X.env.scope x) (hf : X.fn x = true ∨ X.env.scope.names.lookup x = some .local) (he : PE X e (LE C W we)) (me : MonoE we) :
    PS X (.AugAssign (.Name x pos') op e pos) (LS C W fun env S K => ∃ d, env[i]? = some (some d) ∧ we env S (fun y S1 => wpAug o d y fun z => K.nx (env.set i (some z)) S1) (K.ex env)) :=
  (ps_aug hN hi hx he (fun pins s σ H x y u v Q I rx ry h => hop pins s σ H x y u v Q I rx ry h) hf).mono fun D σ H ⟨env, S, r, d, ed, q⟩ => by
    obtain ⟨v, a, b⟩ := r.2.1 i d ed
    exact ⟨v, a, LE.use me r q (kx r) fun y S1 v1 H1 x1 r1 q1 k1 => ⟨d, y, S1, b.ext x1, q1, r1.2.2, wpAug_mono (fun z k v' H' x' ok rv => k _ _ (x1.trans x') ((r1.ext x' ok).set i rv)) k1⟩⟩
include hK in
theorem t_auF {a e : Expr} {f : Nat} {fn : Str} {op : Operator} {o : Bop} {pos tpos : Pos} {wa we : WE} (F : Fcts C) (hn : C.nm f = fn) (hf : C.isF f) (hop : InOp X op (RAug C o)) (ha : PE X a (LE C W wa)) (he : PE X e (LE C W we)) (ma : MonoE wa) (me : MonoE we) :
    PS X (.AugAssign (.Attribute a fn tpos) op e pos) (LS C W fun env S K => wa env S (fun x S1 => ∃ p c fs v, x = .ref p ∧ S1 p = some (.ins c fs) ∧ fs.lookup f = some v ∧
      we env S1 (fun y S2 => wpAug o v y fun z => ∃ fs', S2 p = some (.ins c fs') ∧ fs'.length < 1000 ∧ K.nx env (S2.upd p (.ins c (putN f z fs')))) (K.ex env)) (K.ex env)) := by
  subst hn
  refine (ps_fldaug ha he hop).mono fun D σ H ⟨env, S, r, q⟩ => LE.use ma r q (kx r) fun d S1 v H1 x1 r1 q1 ⟨p, c, fs, v0, e1, e2, e3, k1⟩ => ?_
  subst e1
  cases q1
  obtain ⟨dx, fs', e4, q4, hc⟩ := r1.2.2.ins e2
  obtain ⟨w, e5, q5⟩ := RFs.get F hf q4 e3
  refine ⟨p, C.ca c, dx, fs', w, rfl, e4, hK ▸ F.cls c hc, hK ▸ F.noat c f hc hf, e5, LE.use me r1 k1 (kxx r x1) fun y S2 v2 H2 x2 r2 q2 k2 => ⟨v0, y, S2, q5.ext x2, q2, r2.2.2, wpAug_mono (fun z ⟨gs, e6, hl, k⟩ v' H' x' ok rv => ?_) k2⟩⟩
  obtain ⟨dx', gs', e7, q7, _⟩ := ok.ins e6
  have w := ok.put (o := .ins (C.ca c) dx' (putF (C.nm f) v' gs')) (c := .ins c (putN f z gs)) e6
  have xx : Ext C.K H' (L2.upd H' p (.ins (C.ca c) dx' (putF (C.nm f) v' gs'))) := Ext.at e7 trivial
  exact ⟨dx', gs', e7, by rw [q7.length]; exact hl, k _ _ (x1.trans (x2.trans (x'.trans xx))) ((r2.ext x' ok).ext xx (w ⟨dx', _, upd_same, RFs.put F hf (rv.ext xx) (q7.ext xx), hc⟩).2)⟩
/-- x[y], by values -/
theorem getR (hu : X.A.units + 64 < cLine) : PGet X fun o i H Q => ∃ dx dy S, RV C.K H o dx ∧ RV C.K H i dy ∧ SOk C H S ∧ wpGx dx dy S fun d => ∀ v, RV C.K H v d → Q v H := by
  intro pins s σ H o i ov iv Q I ro ri h
  obtain ⟨dx, dy, S, r1, r2, ok, h⟩ := h
  rcases h with ⟨p, xs, k, d, rfl, e, rfl, ei, h⟩ | ⟨p, kvs, d, rfl, e, f, eg, h⟩
  · cases r1
    cases r2
    obtain ⟨vs, e1, q⟩ := ok.lst e
    obtain ⟨w, ew, rw1⟩ := q.atI ei
    cases ro
    obtain ⟨t, rfl⟩ := ri
    obtain ⟨its, r, pl, hz⟩ := I.list (.of e1)
    obtain ⟨j, h1, h2, h3, h4, h5⟩ := atI_get ew
    obtain ⟨w2, ew2, rw2⟩ := r.get h2
    have hl := r.length
    have hn := line63
    have fin : EP X pins σ Q w2 s := ⟨w, H, I, rw2, h w rw1⟩
    by_cases h0 : 0 ≤ k
    · have hj : k.toNat = j := by
        rw [seqIndex_of h0 h5] at h1
        exact Option.some.inj h1
      exact wpAny_getItem_list pl.isList h0 (by omega) (by rw [hj]; simpa using ew2) fin
    · have hj : (k + (its.toArray.size : Int)).toNat = j := by
        rw [seqIndex_neg (by omega) h4] at h1
        rw [List.size_toArray, ← hl]
        exact Option.some.inj h1
      exact wpAny_getItem_list_neg pl.isList (by omega) (by rw [List.size_toArray] <;> omega) (by omega) (by rw [hj]; simpa using ew2) fin
  · cases r1
    obtain ⟨ky, rfl⟩ := key_of f
    have e0 := kV_of r2
    subst e0
    cases ro
    obtain ⟨l, e1, rl⟩ := ok.dic e
    obtain ⟨w, ew, rw1⟩ := rl.val eg
    exact d_getItem (by omega) I (.inl ⟨l, ky, .of e1, rfl, ew.symm⟩) ri fun w' s' I' rw2 => ⟨w, H, I', rw2, h w rw1⟩
theorem t_auS {a i e : Expr} {op : Operator} {o : Bop} {pos tpos : Pos} {wa wi we : WE} (hu : X.A.units + 64 < cLine) (hop : InOp X op (RAug C o)) (ha : PE X a (LE C W wa)) (hi : PE X i (LE C W wi)) (he : PE X e (LE C W we)) (ma : MonoE wa) (mi : MonoE wi) (me : MonoE we)
    (hs : ∀ ov iv new, augStore i ov iv new = (do holding [new, ov, iv] (setItem ov iv new); release [new, ov, iv] []; pure .next)) :
    PS X (.AugAssign (.Subscript a i tpos) op e pos) (LS C W fun env S K => wa env S (fun x S1 => wi env S1 (fun y S2 => wpGx x y S2 fun v => we env S2 (fun w S3 => wpAug o v w fun z =>
      (∃ p xs k j, x = .ref p ∧ S3 p = some (.lst xs) ∧ y = .int k ∧ L2.ixN xs.length k = some j ∧ K.nx env (S3.upd p (.lst (xs.set j z)))) ∨
      (∃ p kvs, x = .ref p ∧ S3 p = some (.dic kvs) ∧ isKey y = true ∧ kvs.length < sizeLine ∧ K.nx env (S3.upd p (.dic (putK y z kvs))))) (K.ex env)) (K.ex env)) (K.ex env)) := by
  refine (ps_augS ha hi (getR (C := C) hu) he (fun pins s σ H x y u v Q I rx ry h => hop pins s σ H x y u v Q I rx ry h) (setR (C := C) hu) hs).mono fun D σ H ⟨env, S, r, q⟩ => LE.use ma r q (kx r) fun x S1 v1 H1 x1 r1 q1 k1 =>
    LE.use mi r1 k1 (kxx r x1) fun y S2 v2 H2 x2 r2 q2 k2 => ⟨x, y, S2, q1.ext x2, q2, r2.2.2, wpGx_mono (fun d k3 v3 q3 => LE.use me r2 k3 (kxx r (x1.trans x2)) fun w S3 v4 H3 x3 r3 q4 k4 => ⟨d, w, S3, q3.ext x3, q4, r3.2.2, wpAug_mono (fun z k5 v' H' x' ok rv => ⟨x, y, z, S3, (q1.ext x2).ext (x3.trans x'), q2.ext (x3.trans x'), rv, ok, ?_⟩) k4⟩) k2⟩
  rcases k5 with ⟨p, xs, n, j, e1, e2, e3, e4, k⟩ | ⟨p, kvs, e1, e2, e3, e4, k⟩
  · exact .inl ⟨p, xs, n, j, e1, e2, e3, e4, fun H'' x'' ok'' => k _ _ (x1.trans (x2.trans (x3.trans (x'.trans x'')))) (r3.ext (x'.trans x'') ok'')⟩
  · exact .inr ⟨p, kvs, e1, e2, e3, e4, fun H'' x'' ok'' => k _ _ (x1.trans (x2.trans (x3.trans (x'.trans x'')))) (r3.ext (x'.trans x'') ok'')⟩
theorem t_while {c : Expr} {body : List Stmt} {pos : Pos} {wc : WE} {wb : WS} (hp : PassesOwn (model X.prog X.w) X.A X.env X.xe) (hc : PT X c (LT C W wc)) (hb : PSs X body (LS C W wb)) (mc : MonoE wc) (mb : MonoS wb) :
    PS X (.While c body [] pos) (LS C W fun env S K => Hold (∃ n, whileN (fun env S Q => wc env S Q (K.ex env)) wb K n env S)) := by
  refine (ps_while hp hc hb).mono fun D σ H ⟨env, S, r, _, n, q⟩ => ?_
  refine ⟨fun m σ' H' => ∃ env' S', Ext C.K H H' ∧ Rl C σ' H' env' S' ∧ whileN (fun env S Q => wc env S Q ((KD C W H D).ex env)) wb (KD C W H D) m env' S', ⟨n, env, S, Ext.refl, r, q⟩, ?_⟩
  rintro m σ' H' ⟨env', S', x, r', k⟩
  cases m with
  | zero => exact k.elim
  | succ m =>
    refine LT.use mc r' k (kxw x r') fun d S1 ⟨b, e, k⟩ => ⟨b, e, fun H1 x1 r1 => ?_⟩
    cases b with
    | true =>
      refine ⟨fun σ2 H2 => ∃ env2 S2, Ext C.K H H2 ∧ Rl C σ2 H2 env2 S2 ∧ whileN (fun env S Q => wc env S Q ((KD C W H D).ex env)) wb (KD C W H D) m env2 S2, fun σ2 H2 h => ⟨m, Nat.lt_succ_self m, h⟩, env', S1, r1, mb _ _ _ _ ?_ k⟩
      exact ⟨fun e2 s2 z σ2 H2 x2 r2 => ⟨e2, s2, x.trans (x1.trans x2), r2, z⟩, fun _ _ z => z.ext (x.trans x1), fun e2 s2 z σ2 H2 x2 r2 => z σ2 H2 (x.trans (x1.trans x2)) r2, fun e2 s2 z σ2 H2 x2 r2 => ⟨e2, s2, x.trans (x1.trans x2), r2, z⟩, fun e2 c s2 z σ2 H2 x2 r2 => z σ2 H2 (x.trans (x1.trans x2)) r2⟩
    | false => exact k _ _ (x.trans x1) r1
theorem forLoop_guard {guard : Store → Prop} {G : D → Env → Option Env} {B : WS} {K : Kt} : ∀ {items : List D} {env : Env} {S : Store}, forLoop guard G B K items env S → guard S
  | [], _, _, h => h.1
  | _ :: _, _, _, h => h.1
/-- the turns of a for -/
theorem for_core {J : It} {items : List D} {guard : Store → Prop} {t : Tg} {wb : WS} {K : Kt} {D : Ends} {σ : St2} {H0 H : Hp} {env : Env} {S : Store} (mb : MonoS wb) (hk : Kt.le K (KD C W H0 D)) (x0 : Ext C.K H0 H) (r : Rl C σ H env S) (ok : ItOk C H J items guard) (q : forLoop guard (asgT t) wb K items env S) :
    ∃ W' : Nat → Nat → St2 → Hp → Prop, (∃ m, W' 0 m σ H) ∧ ∀ i m σ H, W' i m σ H →
      (J.stop i H ∧ D.nx σ H) ∨ (J.go i H ∧ ∃ N : St2 → Hp → Prop, (∀ σ' H', N σ' H' → ∃ m', m' < m ∧ W' (i + 1) m' σ' H') ∧ ∀ x H', J.yld i H x H' → LG C t x σ H' fun σ2 H2 => LS C W wb { D with nx := N, ct := N, bk := D.nx } σ2 H2) := by
  obtain ⟨G, Y, hw, hG, hY⟩ := ok
  refine for_it hw (fun i σ' H' => ∃ env' S', Ext C.K H H' ∧ Rl C σ' H' env' S' ∧ forLoop guard (asgT t) wb K (items.drop i) env' S') ⟨env, S, Ext.refl, r, q⟩ (fun i σ' H' _ ⟨env', S', x', r', k'⟩ => hG H' S' x' r'.2.2 (forLoop_guard k')) (fun i x σ' H2 H3 hi ⟨env', S', x', r', k'⟩ y => ?_) fun σ' H' ⟨env', S', x', r', k'⟩ => ?_
  · obtain ⟨x3, ok3, d, ed, rv⟩ := hY i H2 S' x H3 hi x' r'.2.2 (forLoop_guard k') y
    rw [drop_cons ed] at k'
    obtain ⟨_, env2, e2, k'⟩ := k'
    have xx := x0.trans (x'.trans x3)
    refine ⟨d, env', env2, S', rv, r'.ext x3 ok3, e2, fun σ2 r2 _ => ⟨env2, S', r2, mb _ _ _ _ ?_ k'⟩⟩
    exact ⟨fun e s z σ5 H5 x5 r5 => ⟨e, s, x'.trans (x3.trans x5), r5, z⟩, fun d s z => (hk.rt _ _ z).ext xx, fun e s z σ5 H5 x5 r5 => hk.nx _ _ z σ5 H5 (xx.trans x5) r5, fun e s z σ5 H5 x5 r5 => ⟨e, s, x'.trans (x3.trans x5), r5, z⟩, fun e c s z σ5 H5 x5 r5 => hk.ex _ _ _ z σ5 H5 (xx.trans x5) r5⟩
  · rw [List.drop_length] at k'
    exact hk.nx _ _ k'.2 _ _ (x0.trans x') r'
theorem t_for {tg iter : Expr} {body : List Stmt} {pos : Pos} {t : Tg} {wi : WI} {wb : WS} (hp : PassesOwn (model X.prog X.w) X.A X.env X.xe) (hc : X.calm = true) (hi : PI X tg iter (LI C W wi)) (mi : MonoI wi) (hg : PG X tg (LG C t)) (hb : PSs X body (LS C W wb)) (mb : MonoS wb)
    (hs : ∀ x, foldedSetIterable iter X.env x = pure x) : PS X (.For tg iter body [] pos) (LS C W fun env S K => wi env S (fun items guard S1 => Hold (forLoop guard (asgT t) wb K items env S1)) (K.ex env)) := by
  refine (ps_for hp hc hi hg hb hs).mono fun D σ H ⟨env, S, r, q⟩ => ⟨env, S, r, mi _ _ _ _ _ _ (fun items guard S1 k J H1 x1 r1 ok => ?_) (kx r) q⟩
  exact for_core mb ⟨fun _ _ z => z, fun _ _ z => z, fun _ _ z => z, fun _ _ z => z, fun _ _ _ z => z⟩ x1 r1 ok k.out
end
end SW
/-! SW, part Ja: loops over dicts that are locked meanwhile. -/
namespace SW
open PySem PySem.Spec PyProof.Rows L2
theorem ext0_unlock {K : PySem.W.Frag} {H : Hp} {a : Addr} {od : Obj} {kvs : List (Key × V)} (e : H a = some (.frz od (.dK kvs))) : Ext0 K H (L2.upd H a (.dK kvs)) := fun b xs => ⟨fun q => by
  rcases q with q | q
  · have ne : b ≠ a := fun z => by
      subst z
      rcases q with q | ⟨o, q⟩ <;> rw [e] at q <;> cases q
    refine .inl ?_
    rcases q with q | ⟨o', q⟩
    · exact .inl ((upd_ne ne).trans q)
    · exact .inr ⟨o', (upd_ne ne).trans q⟩
  · exact .inr q, fun q => by
  rcases q with ⟨o', q⟩ | q
  · have ne : b ≠ a := fun z => by
      subst z
      rw [e] at q
      cases q
    exact .inl ⟨o', (upd_ne ne).trans q⟩
  · exact .inr q⟩
theorem ext_unlock {K : PySem.W.Frag} {H H' : Hp} {a : Addr} {od : Obj} {kvs : List (Key × V)} (e : H a = some (.dK kvs)) (x : Ext K (L2.upd H a (.frz od (.dK kvs))) H') : Ext K H (L2.upd H' a (.dK kvs)) := fun b xs => by
  have x1 : Ext K H (L2.upd H a (.frz od (.dK kvs))) := Ext.at e trivial
  have e' : H' a = some (.frz od (.dK kvs)) := (x a []).2.2 _ _ L2.upd_same
  have y := ext0_unlock (K := K) e'
  refine ⟨fun q => (y b xs).1 ((x b xs).1 ((x1 b xs).1 q)), fun q => (y b xs).2 ((x b xs).2.1 ((x1 b xs).2.1 q)), fun o u q => ?_⟩
  have ne : b ≠ a := fun z => by
    subst z
    rw [e] at q
    cases q
  rw [upd_ne ne]
  exact (x b xs).2.2 o u ((x1 b xs).2.2 o u q)
section
variable {X : Cx} {C : Cn} {W : WX} (hK : X.K = C.K)
theorem Rl.unlock {σ : St2} {H' : Hp} {env : Env} {S' : Store} {a : Addr} {od : Obj} {kvs : List (Key × V)} {ks : List (D × D)} (r : Rl C σ H' env S') (e : H' a = some (.frz od (.dK kvs))) (eS : S' a = some (.fz (.dic ks))) : Rl C σ (L2.upd H' a (.dK kvs)) env (S'.upd a (.dic ks)) := by
  have y := ext0_unlock (K := C.K) e
  obtain ⟨o2, k2, e2, r2⟩ := r.2.2 a _ eS
  rw [e] at e2
  cases e2
  refine ⟨r.1, fun i d h => let ⟨v, p, q⟩ := r.2.1 i d h; ⟨v, p, q.ext0 y⟩, fun b c h => ?_⟩
  by_cases z : b = a
  · subst z
    rw [Store.upd_same] at h
    cases h
    exact ⟨kvs, L2.upd_same, r2.ext0 y⟩
  · rw [Store.upd_ne z] at h
    exact (r.2.2 b c h).ext0 y (upd_ne z)
theorem RKs.nth {H : Hp} : ∀ {l : List (Key × V)} {m : List (D × D)} {i : Nat} {k : Key} {v : V}, RKs C H l m → l[i]? = some (k, v) → ∃ d, m[i]? = some (kD k, d) ∧ RV C.K H v d
  | _, _, _, _, _, .nil, h => by cases h
  | _, _, 0, _, _, .cons h r, e => by cases e; exact ⟨_, rfl, h⟩
  | _, _, i + 1, _, _, .cons h r, e => RKs.nth r (i := i) (by simpa using e)
theorem RKs.len {H : Hp} : ∀ {l : List (Key × V)} {m : List (D × D)}, RKs C H l m → l.length = m.length
  | _, _, .nil => rfl
  | _, _, .cons h r => congrArg (· + 1) r.len
theorem rv_key {K : PySem.W.Frag} {H : Hp} : ∀ k : Key, RV K H (kV k) (kD k)
  | .inl i => .int i
  | .inr s => .str s
theorem fz_at {H H' : Hp} {S' : Store} {a : Addr} {o : Obj} {kvs : List (Key × V)} {ks : List (D × D)} (ok : SOk C H' S') (g : S' a = some (.fz (.dic ks))) (x : Ext C.K H H') (e : H a = some (.frz o (.dK kvs))) : H' a = some (.frz o (.dK kvs)) ∧ RKs C H' kvs ks := by
  have e' := (x a []).2.2 _ _ e
  obtain ⟨o2, k2, e2, r2⟩ := ok a _ g
  rw [e'] at e2
  cases e2
  exact ⟨e', r2⟩
theorem itok_keys {H0 : Hp} {a : Addr} {o : Obj} {kvs : List (Key × V)} {ks : List (D × D)} (e0 : H0 a = some (.frz o (.dK kvs))) (l : kvs.length = ks.length) : ItOk C H0 (Itk a o kvs) (itemsD false ks) (fun S => S a = some (.fz (.dic ks))) := by
  have hl : (itemsD false ks).length = kvs.length := by unfold itemsD; rw [if_neg (by decide), List.length_map, l]
  refine ⟨_, _, hl ▸ walk_keys, fun H S x ok g => (fz_at ok g x e0).1, fun i H S y H' hi x ok g ⟨e, k, v, h1, h2⟩ => ?_⟩
  subst e h2
  obtain ⟨d, h3, _⟩ := (fz_at ok g x e0).2.nth h1
  refine ⟨Ext.refl, ok, kD k, ?_, rv_key k⟩
  unfold itemsD
  rw [if_neg (by decide), List.getElem?_map, h3]
  rfl
theorem itok_items {H0 : Hp} {a : Addr} {o : Obj} {kvs : List (Key × V)} {ks : List (D × D)} (e0 : H0 a = some (.frz o (.dK kvs))) (l : kvs.length = ks.length) : ItOk C H0 (Iti a o kvs) (itemsD true ks) (fun S => S a = some (.fz (.dic ks))) := by
  have hl : (itemsD true ks).length = kvs.length := by unfold itemsD; rw [if_pos rfl, List.length_map, l]
  refine ⟨_, _, hl ▸ walk_items, fun H S x ok g => (fz_at ok g x e0).1, fun i H S y H' hi x ok g ⟨T, x1, y1, e1, e2, e3, f1, f2⟩ => ?_⟩
  subst e1 e3
  dsimp only at f1 f2
  cases q : kvs[i]? with
  | none => rw [q] at f1; cases f1
  | some kv =>
    rw [q] at f1 f2
    cases f1
    cases f2
    obtain ⟨d, h3, rd⟩ := (fz_at ok g x e0).2.nth (k := kv.1) (v := kv.2) q
    have x2 : Ext C.K H (L2.upd H T (.tup [kV kv.1, kv.2])) := Ext.new e2
    refine ⟨x2, ok.new0 e2, .tup [kD kv.1, d], ?_, .tup (SqT.of upd_same) (.cons (rv_key kv.1) (.cons (rd.ext x2) .nil))⟩
    unfold itemsD
    rw [if_pos rfl, List.getElem?_map, h3]
    rfl
/-- the loop, the dict locked -/
theorem forD_core {items : Bool} {tg iter : Expr} {body : List Stmt} {pos : Pos} {t : Tg} {we : WE} {wb : WS} (me : MonoE we) (mb : MonoS wb) (hs : PS X (.For tg iter body [] pos) (tFor (if items = true then iItems (LE C W we) else iKeys (LE C W we)) (LG C t) (LS C W wb))) :
    PS X (.For tg iter body [] pos) (LS C W fun env S K => ∃ a kvs, S a = some (.dic kvs) ∧ we env (S.upd a (.fz (.dic kvs))) (fun x S1 => x = .ref a ∧
      Hold (forLoop (fun S' => S' a = some (.fz (.dic kvs))) (asgT t) wb
        { nx := fun env' S' => S' a = some (.fz (.dic kvs)) ∧ K.nx env' (S'.upd a (.dic kvs)), rt := fun d S' => S' a = some (.fz (.dic kvs)) ∧ K.rt d (S'.upd a (.dic kvs)), bk := fun _ _ => False, ct := fun _ _ => False, ex := fun _ => noX }
        (itemsD items kvs) env S1)) noX) := by
  refine (ps_lock hs).mono fun D σ H ⟨env, S, r, a, ks, eS, q⟩ => ?_
  obtain ⟨kvs, eH, rk⟩ := r.2.2 a _ eS
  refine ⟨a, .dK kvs, eH, trivial, fun od => ?_⟩
  have xl : Ext C.K H (L2.upd H a (.frz od (.dK kvs))) := Ext.at eH trivial
  have rl : Rl C σ (L2.upd H a (.frz od (.dK kvs))) env (S.upd a (.fz (.dic ks))) := r.ext xl (r.2.2.put (o := .frz od (.dK kvs)) (c := .fz (.dic ks)) eS ⟨od, kvs, L2.upd_same, rk.ext xl⟩).2
  generalize hD : (⟨fun σ' H' => H' a = some (.frz od (.dK kvs)) ∧ D.nx σ' (L2.upd H' a (.dK kvs)), fun v H' => H' a = some (.frz od (.dK kvs)) ∧ D.rt v (L2.upd H' a (.dK kvs)), fun σ' H' => H' a = some (.frz od (.dK kvs)) ∧ D.bk σ' (L2.upd H' a (.dK kvs)), fun σ' H' => H' a = some (.frz od (.dK kvs)) ∧ D.ct σ' (L2.upd H' a (.dK kvs))⟩ : Ends) = D'
  have le : Kt.le { nx := fun env' S' => (S' a = some (.fz (.dic ks))) ∧ (KD C W H D).nx env' (S'.upd a (.dic ks)), rt := fun d S' => S' a = some (.fz (.dic ks)) ∧ (KD C W H D).rt d (S'.upd a (.dic ks)), bk := fun _ _ => False, ct := fun _ _ => False, ex := fun _ => noX } (KD C W (L2.upd H a (.frz od (.dK kvs))) D') := by
    subst hD
    refine ⟨fun env' S' ⟨g, z⟩ σ' H' x' r' => ?_, fun d S' ⟨g, z⟩ v H' x' ok rv => ?_, fun _ _ z => z.elim, fun _ _ z => z.elim, fun _ _ _ z => z.elim⟩
    · have e' := (x' a []).2.2 _ _ L2.upd_same
      exact ⟨e', z _ _ (ext_unlock eH x') (r'.unlock e' g)⟩
    · have e' := (x' a []).2.2 _ _ L2.upd_same
      have r' : Rl C [] H' [] S' := ⟨rfl, fun i d h => (by simp at h), ok⟩
      exact ⟨e', z v _ (ext_unlock eH x') (r'.unlock e' g).2.2 (rv.ext0 (ext0_unlock e'))⟩
  cases items with
  | true =>
    refine LE.use me rl q (fun _ _ z => z.elim) fun d1 S1 v H1 x1 r1 q1 ⟨e1, k⟩ => ?_
    subst e1
    cases q1
    exact ⟨a, od, kvs, rfl, (x1 a []).2.2 _ _ L2.upd_same, for_core mb le x1 r1 (itok_items ((x1 a []).2.2 _ _ L2.upd_same) rk.len) k.out⟩
  | false =>
    refine LE.use me rl q (fun _ _ z => z.elim) fun d1 S1 v H1 x1 r1 q1 ⟨e1, k⟩ => ?_
    subst e1
    cases q1
    exact ⟨a, od, rfl, .inl ⟨kvs, (x1 a []).2.2 _ _ L2.upd_same, for_core mb le x1 r1 (itok_keys ((x1 a []).2.2 _ _ L2.upd_same) rk.len) k.out⟩⟩
end
end SW
/-! SW, part Jb: displays of dicts, list(range(..)). -/
namespace SW
open PySem PySem.Spec PyProof.Rows L2
def flatP2 : List (V × V) → List V
  | [] => []
  | p :: ps => p.1 :: p.2 :: flatP2 ps
theorem pairs_rk {C : Cn} {H : Hp} : ∀ {ps : List (V × V)} {ds : List D} {kvs : List (D × D)}, RVs C.K H (flatP2 ps) ds → pairsOf ds = some kvs → ∃ l : List (Key × V), ps = l.map (fun kv => (kV kv.1, kv.2)) ∧ RKs C H l kvs
  | [], ds, kvs, r, h => by
    cases r
    cases h
    exact ⟨[], rfl, .nil⟩
  | p :: ps, ds, kvs, r, h => by
    match ds, r with
    | d1 :: d2 :: ds, .cons r1 (.cons r2 r) =>
        simp only [pairsOf] at h
        split at h
        · rename_i hk
          cases e : pairsOf ds with
          | none => rw [e] at h; cases h
          | some m =>
            rw [e] at h
            cases h
            obtain ⟨l, e1, e2⟩ := pairs_rk r e
            obtain ⟨k, rfl⟩ := key_of hk
            refine ⟨(k, p.2) :: l, ?_, .cons r2 e2⟩
            rw [e1, List.map_cons]
            congr 1
            cases k with
            | inl i => cases p; cases r1; rfl
            | inr s => cases p; cases r1; rfl
        · cases h
theorem RKs.merge {C : Cn} {H : Hp} : ∀ {m : List (Key × V)} {m' : List (D × D)} {l : List (Key × V)} {l' : List (D × D)}, RKs C H m m' → RKs C H l l' → RKs C H (mergeK l m) (mergeD l' m')
  | _, _, _, _, .nil, r => r
  | _, _, _, _, .cons q t, r => RKs.merge (l := L2.putK _ _ _) (l' := SW.putK _ _ _) t (RKs.put q r)
section
variable {X : Cx} {C : Cn} {W : WX} (hK : X.K = C.K)
/-- the pairs of a display -/
def PrOk (C : Cn) (W : WX) (trs : List (TE × TE)) (wes : WA) : Prop := ∀ (env : Env) (S : Store) (σ : St2) (H : Hp) (Q : List D → Store → Prop) (G : List (V × V) → Hp → Prop), Rl C σ H env S → wes env S Q (XW C W σ H) →
  (∀ ds S' ps H', Ext C.K H H' → Rl C σ H' env S' → RVs C.K H' (flatP2 ps) ds → Q ds S' → G ps H') → tPairs trs σ H G
theorem pr_nil : PrOk C W [] (fun _ S Q _ => Q [] S) := fun env S σ H Q G r q k => k [] S [] H Ext.refl r .nil q
theorem pr_cons {wk wv : WE} {wes : WA} {trs : List (TE × TE)} (mk : MonoE wk) (mv : MonoE wv) (ms : MonoA wes) (h : PrOk C W trs wes) :
    PrOk C W ((LE C W wk, LE C W wv) :: trs) (fun env S Q E => wk env S (fun d S1 => wv env S1 (fun d2 S2 => wes env S2 (fun ds S3 => Q (d :: d2 :: ds) S3) E) E) E) := fun env S σ H Q G r q k =>
  LE.use mk r q (fun _ _ z => z) fun d S1 v H1 x1 r1 q1 k1 => LE.use mv r1 k1 (XW.ext x1) fun d2 S2 v2 H2 x2 r2 q2 k2 =>
    h env S2 σ H2 _ _ r2 (ms _ _ _ _ _ _ (fun _ _ z => z) (XW.ext (x1.trans x2)) k2) fun ds S3 ps H3 x3 r3 q3 z => k (d :: d2 :: ds) S3 ((v, v2) :: ps) H3 (x1.trans (x2.trans x3)) r3 (.cons (q1.ext (x2.trans x3)) (.cons (q2.ext x3) q3)) z
theorem s_disp {keys : List (Option Expr)} {values : List Expr} {pos : Pos} {trs : List (TE × TE)} {wes : WA} (ms : MonoA wes) (h : PPs X pos keys values trs) (hp : PrOk C W trs wes) (hall : keys.all (·.isSome) = true) (hl : keys.length = values.length) (h0 : keys ≠ []) (h15 : keys.length ≤ 15) :
    PE X (.Dict keys values pos) (LE C W fun env S Q E => ∀ p, S p = none → wes env (S.upd p (.dic [])) (fun ds S2 => S2 p = some (.dic []) ∧ ∃ kvs, pairsOf ds = some kvs ∧ kvs.length ≤ 15 ∧ Q (.ref p) (S2.upd p (.dic (mergeD [] kvs)))) E) :=
  (pe_disp h hall hl h0 h15).mono fun σ H Q ⟨env, S, r, q⟩ p hpn => by
    have x1 : Ext C.K H (L2.upd H p (.dK [])) := Ext.new hpn
    have r1 : Rl C σ (L2.upd H p (.dK [])) env (S.upd p (.dic [])) := r.ext x1 (r.2.2.new (c := .dic []) hpn ⟨[], upd_same, .nil⟩)
    refine hp env _ σ _ _ _ r1 (ms _ _ _ _ _ _ (fun _ _ z => z) (XW.ext x1) (q p (r.2.2.none_of hpn))) fun ds S2 ps H2 x2 r2 rv ⟨e, kvs, ek, hk, z⟩ => ?_
    obtain ⟨l0, e0, rk0⟩ := r2.2.2.dic e
    cases rk0
    obtain ⟨l, el, rk⟩ := pairs_rk (C := C) rv ek
    have w := r2.2.2.put (o := .dK (mergeK [] l)) (c := .dic (mergeD [] kvs)) e
    have xx : Ext C.K H2 (L2.upd H2 p (.dK (mergeK [] l))) := Ext.at e0 trivial
    exact ⟨e0, l, el, by rw [rk.length]; exact hk, z _ _ (x1.trans (x2.trans xx)) (w ⟨_, upd_same, (rk.ext xx).merge .nil⟩).2 (.ref p)⟩
theorem rg_len {i j : Int} : (rngL i j).length = (j - i).toNat := by unfold rngL; rw [List.length_map, List.length_range]
theorem rv_rg {K : PySem.W.Frag} {H : Hp} (i j : Int) : RVs K H (rgV i j) (rngL i j) := by
  have e1 : rgV i j = ((List.range (j - i).toNat).map fun k : Nat => i + (k : Int)).map V.int := by unfold rgV; rw [List.map_map]; rfl
  have e2 : rngL i j = ((List.range (j - i).toNat).map fun k : Nat => i + (k : Int)).map D.int := by unfold rngL; rw [List.map_map]; rfl
  rw [e1, e2]
  exact RVs.ofInts
theorem s_lr2 {a b : Expr} {p p2 pos pos2 : Pos} {wa wb : WE} (hc : X.calm = true) (hg : Gl X "list") (hm : X.mg "list" = none) (hg2 : Gl X "range") (hm2 : X.mg "range" = none) (ha : PE X a (LE C W wa)) (hb : PE X b (LE C W wb)) (ma : MonoE wa) (mb : MonoE wb) (h1 : notStar a = true) (h2 : notStar b = true) :
    PE X (.Call (.Name "list" p) [.Call (.Name "range" p2) [a, b] [] pos2] [] pos) (LE C W fun env S Q E => wa env S (fun x S1 => wb env S1 (fun y S2 => ∃ i j, x = .int i ∧ y = .int j ∧ small i ∧ small j ∧ (j - i).toNat ≤ 16777216 ∧ ∀ p, S2 p = none → Q (.ref p) (S2.upd p (.lst (rngL i j)))) E) E) := by
  have e2 : starEach [a, b] X.env = (false, eval a X.env) :: starEach [b] X.env := star1 h1
  have e3 : starEach [b] X.env = (false, eval b X.env) :: starEach [] X.env := star1 h2
  refine (pe_listRg hc hg hm (prg_2 hg2 hm2 ha hb e2 e3 (starAll (es := [b]) (by rw [List.all_cons, h2]; rfl)))).mono fun σ H Q ⟨env, S, r, q⟩ => LE.use ma r q (fun _ _ z => z) fun d S1 v H1 x1 r1 q1 k1 => LE.use mb r1 k1 (XW.ext x1) fun d2 S2 v2 H2 x2 r2 q2 ⟨i, j, e1, e2, s1, s2, l, k⟩ => ?_
  subst e1 e2
  cases q1
  cases q2
  exact ⟨i, j, rfl, rfl, ⟨s1.1, s1.2, s2.1, s2.2, l⟩, fun q hq => QV.new (fun p hp => QV.ext (x1.trans x2) _ _ (k p hp)) r2.2.2 (rv_rg i j) hq⟩
theorem s_lr1 {a : Expr} {p p2 pos pos2 : Pos} {wa : WE} (hc : X.calm = true) (hg : Gl X "list") (hm : X.mg "list" = none) (hg2 : Gl X "range") (hm2 : X.mg "range" = none) (ha : PE X a (LE C W wa)) (ma : MonoE wa) (h1 : notStar a = true) :
    PE X (.Call (.Name "list" p) [.Call (.Name "range" p2) [a] [] pos2] [] pos) (LE C W fun env S Q E => wa env S (fun y S2 => ∃ i j, D.int 0 = .int i ∧ y = .int j ∧ small i ∧ small j ∧ (j - i).toNat ≤ 16777216 ∧ ∀ p, S2 p = none → Q (.ref p) (S2.upd p (.lst (rngL i j)))) E) := by
  refine (pe_listRg hc hg hm (prg_1 hg2 hm2 ha (star1 h1))).mono fun σ H Q ⟨env, S, r, q⟩ => LE.use ma r q (fun _ _ z => z) fun d2 S2 v2 H2 x2 r2 q2 ⟨i, j, e1, e2, s1, s2, l, k⟩ => ?_
  cases e1
  subst e2
  cases q2
  exact ⟨j, rfl, ⟨s1.1, s1.2, s2.1, s2.2, l⟩, fun q hq => QV.new (fun p hp => QV.ext x2 _ _ (k p hp)) r2.2.2 (rv_rg 0 j) hq⟩
end
end SW
/-! SW, part K: from the text to the small language. -/
namespace SW
open PySem PySem.Spec PyProof.Rows L2
inductive Gk where | cst (d : D) | fn (f : Nat) | cls (c : Nat) | exc (c : Nat)
structure EC where
  N : List Str
  sc : List (Str × NameKind)
  own : List Str
  gl : List (Str × Gk)
  bn : List Str
  flds : List (Str × Nat)
  mths : List (Str × Nat)
  dn : List Str := []
def chk (b : Bool) : Option Unit := if b = true then some () else none
theorem chk_some {b : Bool} {u : Unit} : chk b = some u ↔ b = true := by
  unfold chk
  cases b <;> simp
def ixOf (x : Str) : List Str → Option Nat
  | [] => none
  | y :: r => if y = x then some 0 else (ixOf x r).map (· + 1)
theorem ixOf_ok {x : Str} : ∀ {l : List Str} {i : Nat}, ixOf x l = some i → l[i]? = some x
  | [], i, h => by cases h
  | y :: r, i, h => by
    unfold ixOf at h
    by_cases e : y = x
    · rw [if_pos e] at h
      cases h
      rw [e]
      rfl
    · rw [if_neg e] at h
      cases q : ixOf x r with
      | none => rw [q] at h; cases h
      | some j =>
        rw [q] at h
        cases h
        have z := ixOf_ok q
        simpa using z
def badN (x : Str) : Bool := x == ("__debug__" : Str) || (x == ("__classdict__" : Str) || x == ("__name__" : Str))
def EC.vis (G : EC) (x : Str) : Bool := match G.sc.lookup x with
  | some .local => true
  | some .cell => true
  | some .free => true
  | _ => false
def EC.isG (G : EC) (x : Str) : Bool := match G.sc.lookup x with
  | some .globalImplicit => true
  | _ => false
/-- a name that may be stored -/
def EC.sto (G : EC) (x : Str) : Bool := match G.sc.lookup x with
  | some .local => true
  | some .cell => G.own.contains x
  | _ => false
def EC.isL (G : EC) (x : Str) : Bool := match G.sc.lookup x with
  | some .local => true
  | _ => false
def bopOf : Operator → Option Bop
  | .Add => some .add
  | .Sub => some .sub
  | .Mult => some .mul
  | .FloorDiv => some .fdiv
  | .Mod => some .mod
  | .Pow => some .pow
  | _ => none
def copOf : CmpOp → Cop
  | .Eq => .eq
  | .NotEq => .ne
  | .Lt => .lt
  | .LtE => .le
  | .Gt => .gt
  | .GtE => .ge
  | .Is => .is
  | .IsNot => .isnot
  | .In => .in_
  | .NotIn => .notin
def bltNs : List (Str × Blt) := [("len", .len), ("int", .int), ("max", .max), ("min", .min), ("list", .list), ("tuple", .tuple), ("sorted", .sorted), ("str", .str), ("abs", .abs), ("sum", .sum), ("all", .all), ("any", .any)]
def bmtNs : List (Str × Bmt) := [("append", .append), ("pop", .pop), ("get", .get), ("join", .join), ("split", .split), ("extend", .extend), ("clear", .clear), ("remove", .remove)]
def tyNs : List (Str × Ty) := [("int", .int), ("bool", .bool), ("str", .str), ("list", .list), ("tuple", .tuple), ("dict", .dict)]
/-- a test that is asked the plain way, or by its operator -/
def tst : Expr → Bool
  | .IfExp _ _ _ _ => false
  | _ => true
def noSlice : Expr → Bool
  | .Slice _ _ _ _ => false
  | _ => true
def noSet : Expr → Bool
  | .Set _ _ _ => false
  | _ => true
def elEs (f : Expr → Option Ex) : List Expr → Option Exs
  | [] => some .nil
  | e :: es => do
    let a ← f e
    let b ← elEs f es
    some (.cons a b)
/-- a part of an f-string: a text, or an int -/
def elFp (f : Expr → Option Ex) : Expr → Option Ex
  | .FormattedValue e c none _ => if c = -1 then (f e).bind fun x => some (.blt .str (.cons x .nil)) else none
  | .Constant (.str s) _ _ => some (.cst (.str s))
  | _ => none
def elFs (f : Expr → Option Ex) : List Expr → Option (List Ex)
  | [] => some []
  | e :: es => do
    let a ← elFp f e
    let b ← elFs f es
    some (a :: b)
def elB (f : Expr → Option Ex) (op : BoolOp) : List Expr → Option Ex
  | [] => none
  | [a] => do
    chk (tst a)
    f a
  | a :: b :: rest => do
    chk (tst a)
    let x ← f a
    let y ← elB f op (b :: rest)
    match op with
    | .And => some (.an x y)
    | .Or => some (.or x y)
def elO (f : Expr → Option Ex) : Option Expr → Option Ox
  | none => some .no
  | some e => do
    let a ← f e
    some (.some a)
def elTy (G : EC) : Expr → Option Ty
  | .Name x _ => do
    chk (G.isG x && G.bn.contains x && !badN x)
    tyNs.lookup x
  | _ => none
def elTys (G : EC) : List Expr → Option (List Ty)
  | [] => some []
  | e :: es => do
    let a ← elTy G e
    let b ← elTys G es
    some (a :: b)
mutual
def elT : Nat → EC → Expr → Option Tg
  | 0, _, _ => none
  | n + 1, G, .Name x _ => do
    chk (G.sto x)
    let i ← ixOf x G.N
    some (.nm i)
  | n + 1, G, .Tuple es _ _ => do
    let ts ← elTs n G es
    some (.tup ts)
  | _ + 1, _, _ => none
def elTs : Nat → EC → List Expr → Option Tgs
  | 0, _, _ => none
  | _ + 1, _, [] => some .nil
  | n + 1, G, e :: es => do
    let t ← elT n G e
    let ts ← elTs n G es
    some (.cons t ts)
end
/-! the names of a target -/
mutual
def tgNs : Nat → Expr → List Str
  | _, .Name x _ => [x]
  | n + 1, .Tuple es _ _ => tgsNs n es
  | _, _ => []
def tgsNs : Nat → List Expr → List Str
  | n + 1, e :: es => tgNs n e ++ tgsNs n es
  | _, _ => []
end
def mapO {α β : Type} (f : α → Option β) : List α → Option (List β)
  | [] => some []
  | a :: r => do
    let b ← f a
    let bs ← mapO f r
    some (b :: bs)
def relabelN (sc : List (Str × NameKind)) (names : List (Str × NameKind)) : List (Str × NameKind) :=
  names.map fun (n, k) => if (k == .free && sc.lookup n == some .cell) = true then (n, .cell) else (n, k)
/-- the block of a comprehension -/
def EC.blk (G : EC) (scope : Scope) : EC := { G with sc := relabelN G.sc scope.names, own := (scope.names.filter fun p => p.2 == .cell).map (·.1) }
def scOf (names : List (Str × NameKind)) : Scope := { kind := .function, names := names, isGenerator := false, isCoroutine := false }
def isTupE : Expr → Bool
  | .Tuple _ _ _ => true
  | _ => false
def elI (f : Expr → Option Ex) (G : EC) (tg : Expr) : Expr → Option Itx
  | .Call (.Name x p) args [] pos => if x = ("range" : Str) then do
      chk (G.isG x && G.bn.contains x)
      match args with
      | [a] => do
        let a' ← f a
        some (.rng1 a')
      | [a, b] => do
        let a' ← f a
        let b' ← f b
        some (.rng2 a' b')
      | _ => none
    else if x = ("enumerate" : Str) then do
      chk (G.isG x && (G.bn.contains x && isTupE tg))
      match args with
      | [a] => do
        let a' ← f a
        some (.enu a')
      | _ => none
    else if x = ("zip" : Str) then do
      chk (G.isG x && (G.bn.contains x && isTupE tg))
      match args with
      | [a, b] => do
        let a' ← f a
        let b' ← f b
        some (.zip a' b')
      | _ => none
    else do
      let a ← f (.Call (.Name x p) args [] pos)
      some (.seq a)
  | e => do
    chk (noSet e)
    let a ← f e
    some (.seq a)
def elC (f : Expr → Option Ex) : List Expr → Option Ex
  | [] => some (.cst (.bl true))
  | [c] => do
    chk (tst c)
    f c
  | _ => none
/-- calls within calls that are read as one -/
inductive Spc where | lr1 (a : Expr) | lr2 (a b : Expr)
def isB (G : EC) (x y : Str) : Bool := decide (x = y) && (G.isG x && G.bn.contains x)
def special (G : EC) (x : Str) : List Expr → Option Spc
  | [.Call (.Name y _) [a] [] _] => if (isB G x "list" && (isB G y "range" && notStar a)) = true then some (.lr1 a) else none
  | [.Call (.Name y _) [a, b] [] _] => if (isB G x "list" && (isB G y "range" && (notStar a && notStar b))) = true then some (.lr2 a b) else none
  | _ => none
/-- a call of a name -/
def elCall (r : EC → Expr → Option Ex) (G : EC) (x : Str) (args : List Expr) : Option Ex := do
  chk (G.isG x && !badN x)
  match G.gl.lookup x with
  | some (.fn f) => do
    let xs ← elEs (r G) args
    some (.call f xs)
  | some (.cls c) => do
    let xs ← elEs (r G) args
    some (.mk c xs)
  | some _ => none
  | none => do
    chk (G.bn.contains x)
    if x = ("isinstance" : Str) then
      match args with
      | [a, .Tuple ts _ _] => do
        chk (decide (ts.length ≤ sizeLine))
        let y ← r G a
        let tys ← elTys G ts
        some (.isi y tys)
      | [a, t] => do
        let y ← r G a
        let ty ← elTy G t
        some (.isi y [ty])
      | _ => none
    else do
      let b ← bltNs.lookup x
      chk (!args.isEmpty)
      let xs ← elEs (r G) args
      some (.blt b xs)
/-- the pairs of a display -/
def elPairs (f : Expr → Option Ex) : List (Option Expr) → List Expr → Option Exs
  | [], [] => some .nil
  | some k :: ks, v :: vs => do
    let a ← f k
    let b ← f v
    let c ← elPairs f ks vs
    some (.cons a (.cons b c))
  | _, _ => none
def elX (r : EC → Expr → Option Ex) (n : Nat) (G : EC) : Expr → Option Ex
  | .Name x _ => do
    chk (!badN x)
    if G.vis x = true then do
      let i ← ixOf x G.N
      some (.var i)
    else do
      chk (G.isG x)
      match G.gl.lookup x with
      | some (.cst d) => some (.cst d)
      | _ => none
  | .Constant c _ _ => match c with
    | .none => some (.cst .non)
    | .bool b => some (.cst (.bl b))
    | .int i => some (.cst (.int i))
    | .str s => some (.cst (.str s))
    | _ => none
  | .BinOp a op b _ => do
    let o ← bopOf op
    let x ← r G a
    let y ← r G b
    some (.bin o x y)
  | .UnaryOp .Not a _ => do
    chk (tst a)
    let x ← r G a
    some (.no x)
  | .UnaryOp .USub a _ => do
    let x ← r G a
    some (.neg x)
  | .BoolOp op es _ => elB (r G) op es
  | .Compare a [op] [b] _ => do
    chk (!behindInMarks op b)
    let x ← r G a
    let y ← r G b
    some (.cmp (copOf op) x y)
  | .Compare a [op, op'] [b, c] _ => do
    chk (!lastMarks [op, op'] [b, c])
    let x ← r G a
    let y ← r G b
    let z ← r G c
    some (.chn (copOf op) (copOf op') x y z)
  | .IfExp t a b _ => do
    chk (tst t)
    let z ← r G t
    let x ← r G a
    let y ← r G b
    some (.ife z x y)
  | .Tuple es _ _ => do
    let xs ← elEs (r G) es
    some (.tup xs)
  | .List es _ => do
    let xs ← elEs (r G) es
    some (.lst xs)
  | .Dict [] [] _ => some (.dic .nil .nil)
  | .Dict (k :: ks) vs _ => do
    chk (decide ((k :: ks).length ≤ 15))
    let xs ← elPairs (r G) (k :: ks) vs
    some (.dic xs .nil)
  | .Subscript a (.Slice none none (some (.UnaryOp .USub (.Constant (.int 1) _ _) _)) _) _ => do
    let x ← r G a
    some (.rvs x)
  | .Subscript a (.Slice lo hi none _) _ => do
    let x ← r G a
    let l ← elO (r G) lo
    let h ← elO (r G) hi
    some (.slc x l h)
  | .Subscript a b _ => do
    chk (noSlice b)
    let x ← r G a
    let y ← r G b
    some (.ix x y)
  | .Attribute a f _ => do
    chk (okBase a)
    let x ← r G a
    let i ← G.flds.lookup f
    some (.fld x i)
  | .Call (.Name x _) args [] _ => match special G x args with
    | some (.lr1 a) => do
      let y ← r G a
      some (.lrg (.cst (.int 0)) y)
    | some (.lr2 a b) => do
      let y ← r G a
      let z ← r G b
      some (.lrg y z)
    | none => elCall r G x args
  | .Call (.Attribute o m apos) args [] pos => do
    chk (okBase o && (decide (args.length < 30) && (apos.endLine == pos.line)))
    let y ← r G o
    let xs ← elEs (r G) args
    match G.mths.lookup m with
    | some i => some (.meth y i xs)
    | none => do
      let b ← bmtNs.lookup m
      some (.bmt y b xs)
  | .ListComp elt [⟨tg, iter, ifs, 0⟩] scope _ => do
    let it ← elI (r G) G tg iter
    let own ← mapO (fun x => (ixOf x G.N).map fun i => (x, i)) (tgNs n tg)
    chk (blkC G.N (scOf G.sc) scope own)
    let t ← elT n (G.blk scope) tg
    chk (tgIn (own.map (·.2)) t)
    let c ← elC (r (G.blk scope)) ifs
    let e ← r (G.blk scope) elt
    some (.comp e t it c (own.map (·.2)))
  | .JoinedStr (p :: q :: ps) _ => do
    let xs ← elFs (r G) (p :: q :: ps)
    some (xs.foldl (fun a x => .bin .add a x) (.cst (.str Str.empty)))
  | _ => none
def elE : Nat → EC → Expr → Option Ex
  | 0, _, _ => none
  | n + 1, G, e => elX (elE n) n G e
/-- what is walked as a dict: its pairs, or its keys -/
def dwalk (G : EC) (tg : Expr) : Expr → Option (Bool × Expr)
  | .Call (.Attribute a m apos) [] [] cpos => if m = ("items" : Str) ∧ (okBase a && ((apos.endLine == cpos.line) && isTupE tg)) = true then some (true, a) else none
  | .Name x p => if G.dn.contains x = true then some (false, .Name x p) else none
  | .Subscript a (.Constant (.str x) k q) p => if G.dn.contains x = true then some (false, .Subscript a (.Constant (.str x) k q) p) else none
  | _ => none
theorem dwalk_ok {X : Cx} {G : EC} {tg iter a : Expr} {items : Bool} {te : TE} (h : dwalk G tg iter = some (items, a)) (ha : PE X a te) : PI X tg iter (if items = true then iItems te else iKeys te) ∧ ∀ z, foldedSetIterable iter X.env z = pure z := by
  unfold dwalk at h
  split at h
  · split at h
    · rename_i hc
      cases h
      obtain ⟨rfl, hc⟩ := hc
      rw [Bool.and_eq_true, Bool.and_eq_true] at hc
      obtain ⟨h1, h2, h3⟩ := hc
      cases tg with
      | Tuple elts kk tpos => exact ⟨pi_items ha (base_of h1) h2, fun _ => rfl⟩
      | _ => cases h3
    · cases h
  · split at h
    · cases h
      exact ⟨pi_keys ha, fun _ => rfl⟩
    · cases h
  · split at h
    · cases h
      exact ⟨pi_keys ha, fun _ => rfl⟩
    · cases h
  · cases h
end SW
/-! SW, part L: the way from the text is right: expressions. -/
namespace SW
open PySem PySem.Spec PyProof.Rows L2
/-- a call of the thing at a, in every context alike -/
structure Same (X Y : Cx) : Prop where
  prog : Y.prog = X.prog
  w : Y.w = X.w
  K : Y.K = X.K
  mg : Y.mg = X.mg
  base : Y.base = X.base
  A : Y.A = X.A
theorem Same.trans {X Y Z : Cx} (a : Same X Y) (b : Same Y Z) : Same X Z := ⟨b.prog.trans a.prog, b.w.trans a.w, b.K.trans a.K, b.mg.trans a.mg, b.base.trans a.base, b.A.trans a.A⟩
def CallAll (X : Cx) (C : Cn) (a : Addr) (w : List D → Store → PQ → PX → Prop) : Prop := ∀ Y W, Same X Y → Takes Y W → CallOk Y C W a w
def mkW (P : Prg) (RM : Rec) (c : Nat) : List D → Store → PQ → PX → Prop := fun ds S Q E => ∃ f, P.init c = some f ∧ ∀ p, S p = none → RM f (.ref p :: ds) (S.upd p (.ins c [])) (fun v S2 => v = .non ∧ Q (.ref p) S2) E
def GlOk (C : Cn) (P : Prg) (R RM : Rec) (X : Cx) (x : Str) : Gk → Prop
  | .cst d => ∃ v u, X.mg x = some u ∧ RelV v u ∧ ∀ H, RV C.K H v d
  | .fn f => ∃ a, X.mg x = some (.ref a) ∧ PySem.W.keepIn X.K (.ref a) = true ∧ CallAll X C a fun ds S Q E => R f ds S Q E
  | .cls c => ∃ a, X.mg x = some (.ref a) ∧ PySem.W.keepIn X.K (.ref a) = true ∧ CallAll X C a (mkW P RM c)
  | .exc c => X.mg x = some (.ref (C.ca c)) ∧ PySem.W.excIn X.K (C.ca c) He.veBase "ValueError.__new__" = true ∧ PySem.W.keepIn X.K (.ref (C.ca c)) = true ∧
      PySem.W.subIn X.K (.ref (C.ca c)) (.type "BaseException") = some true ∧ PySem.W.typeIn X.K (.ref (C.ca c)) = some (.type "type")
/-- a class that an exception is asked for: one of the text, or ValueError -/
def cvU (C : Cn) : Option Nat → Value
  | none => .type "ValueError"
  | some c => .ref (C.ca c)
def cvV (C : Cn) : Option Nat → V
  | none => .ty "ValueError"
  | some c => .ref (C.ca c)
structure XOk (G : EC) (C : Cn) (P : Prg) (R RM : Rec) (W : WX) (X : Cx) : Prop where
  K : X.K = C.K
  N : X.N = G.N
  nd : X.N.Nodup
  scn : X.env.scope.names = G.sc
  sck : X.env.scope.kind = .function
  fnc : ∀ x, G.own.contains x = true → X.fn x = true
  calm : X.calm = true
  hu : X.A.units + 64 < cLine
  tk : Takes X W
  po : PassesOwn (model X.prog X.w) X.A X.env X.xe
  F : Fcts C
  gl : ∀ x g, G.gl.lookup x = some g → GlOk C P R RM X x g
  bn : ∀ x, G.bn.contains x = true → X.mg x = none
  fld : ∀ s f, G.flds.lookup s = some f → C.nm f = s ∧ C.isF f
  mnm : ∀ s f, G.mths.lookup s = some f → C.nm f = s
  mth : ∀ m Y W', Same X Y → Takes Y W' → MethOk Y C W' P R m
  sub : ∀ c' c b, P.sub c' c = some b → PySem.W.exmOne C.K (.ref (C.ca c')) (.ref (C.ca c)) = some b
  isx : ∀ c' oc b, P.isx c' oc = some b → ExcC C.K (C.ca c') ∧ PySem.W.kitOne C.K (.ref (C.ca c')) (cvU C oc) = some b
theorem XOk.dn {G : EC} {C : Cn} {P : Prg} {R RM : Rec} {W : WX} {X : Cx} (x : XOk G C P R RM W X) (d : List Str) : XOk { G with dn := d } C P R RM W X :=
  ⟨x.K, x.N, x.nd, x.scn, x.sck, x.fnc, x.calm, x.hu, x.tk, x.po, x.F, x.gl, x.bn, x.fld, x.mnm, x.mth, x.sub, x.isx⟩
theorem EC.vis_ok {G : EC} {X : Cx} {x : Str} (h : X.env.scope.names = G.sc) (v : G.vis x = true) : Vis X.env.scope x := by
  unfold EC.vis at v
  unfold Vis
  rw [h]
  split at v
  · exact .inl (by assumption)
  · exact .inr (.inl (by assumption))
  · exact .inr (.inr (by assumption))
  · cases v
theorem EC.isG_ok {G : EC} {X : Cx} {x : Str} (h : X.env.scope.names = G.sc) (v : G.isG x = true) : Gl X x := by
  unfold EC.isG at v
  show X.env.scope.names.lookup x = _
  rw [h]
  split at v
  · assumption
  · cases v
theorem EC.sto_ok {G : EC} {X : Cx} {x : Str} (h : X.env.scope.names = G.sc) (hf : ∀ x, G.own.contains x = true → X.fn x = true) (v : G.sto x = true) : L2.Loc X.env.scope x ∧ (X.fn x = true ∨ X.env.scope.names.lookup x = some .local) := by
  unfold EC.sto at v
  unfold L2.Loc
  rw [h]
  split at v
  · exact ⟨.inl (by assumption), .inr (by assumption)⟩
  · exact ⟨.inr (by assumption), .inl (hf x v)⟩
  · cases v
theorem badN_ok {x : Str} (h : (!badN x) = true) : (x == ("__debug__" : Str)) = false ∧ (x == ("__classdict__" : Str)) = false ∧ x ≠ "__name__" := by
  unfold badN at h
  rw [Bool.not_eq_true', Bool.or_eq_false_iff, Bool.or_eq_false_iff] at h
  exact ⟨h.1, h.2.1, beq_eq_false_iff_ne.mp h.2.2⟩
theorem NoPlain {b : Expr} (h : noSlice b = true) : PlainIx b := by
  intro o i
  cases b <;> first | rfl | cases h
section
variable {G : EC} {C : Cn} {P : Prg} {R RM : Rec} {W : WX} {X : Cx}
/-- what is shown of an expression -/
def Good (X : Cx) (C : Cn) (P : Prg) (R RM : Rec) (W : WX) (e : Expr) (ir : Ex) : Prop := notStar e = true ∧ PE X e (LE C W (wpE P R RM ir)) ∧ (tst e = true → PT X e (LT C W (wpE P R RM ir)))
variable (mR : MonoR R) (mM : MonoR RM)
include mR mM
theorem mE (ir : Ex) : MonoE (wpE P R RM ir) := fun _ _ _ _ _ _ hq hE h => wpE_mono mR mM ir hq hE h
theorem mEs (ir : Exs) : MonoA (wpEs P R RM ir) := fun _ _ _ _ _ _ hq hE h => wpEs_mono mR mM ir hq hE h
theorem mO (ir : Ox) : ∀ env S Q Q' E E', (∀ d S, Q d S → Q' d S) → (∀ c S, E c S → E' c S) → wpO P R RM ir env S Q E → wpO P R RM ir env S Q' E' := fun _ _ _ _ _ _ hq hE h => wpO_mono mR mM ir hq hE h
theorem mI (ir : Itx) : MonoI (wpI P R RM ir) := fun _ _ _ _ _ _ hq hE h => wpI_mono mR mM ir hq hE h
theorem Good.plain {e : Expr} {ir : Ex} (hs : notStar e = true) (h : PE X e (LE C W (wpE P R RM ir))) (hp : ∀ whole, isTrue e X.env whole = (do let v ← whole; standAt e.pos; holding [v] (truthy v))) : Good X C P R RM W e ir :=
  ⟨hs, h, fun _ => plain_test h (mE mR mM ir) hp⟩
theorem elEs_ok {f : Expr → Option Ex} (hf : ∀ e ir, f e = some ir → Good X C P R RM W e ir) : ∀ {es : List Expr} {irs : Exs}, elEs f es = some irs → es.all notStar = true ∧ PA X es (LA C W (wpEs P R RM irs)) ∧ (es = [] → irs = .nil)
  | [], irs, h => by
    cases h
    exact ⟨rfl, s_nil, fun _ => rfl⟩
  | e :: es, irs, h => by
    simp only [elEs, Option.bind_eq_bind, Option.bind_eq_some_iff, Option.some.injEq] at h
    obtain ⟨a, ha, b, hb, rfl⟩ := h
    obtain ⟨h1, h2, _⟩ := hf e a ha
    obtain ⟨h3, h4, _⟩ := elEs_ok hf hb
    refine ⟨by rw [List.all_cons, h1, h3]; rfl, s_cons h2 h4 (mE mR mM a) (mEs mR mM b) (star1 h1), fun z => by cases z⟩
theorem elB_ok {f : Expr → Option Ex} (hf : ∀ e ir, f e = some ir → Good X C P R RM W e ir) {op : BoolOp} {pos : Pos} : ∀ {es : List Expr} {ir : Ex}, elB f op es = some ir →
    PE X (.BoolOp op es pos) (LE C W (wpE P R RM ir)) ∧ PW X (.BoolOp op es pos) (LT C W (wpE P R RM ir))
  | [], ir, h => by cases h
  | [a], ir, h => by
    simp only [elB, Option.bind_eq_bind, Option.bind_eq_some_iff, chk_some] at h
    obtain ⟨_, h0, ha⟩ := h
    obtain ⟨h1, h2, h3⟩ := hf a ir ha
    refine ⟨pe_one h2, ?_⟩
    cases op with
    | And => exact pw_and1 (h3 h0)
    | Or => exact pw_or1 (h3 h0)
  | a :: b :: rest, ir, h => by
    simp only [elB, Option.bind_eq_bind, Option.bind_eq_some_iff, chk_some] at h
    obtain ⟨_, h0, x, hx, y, hy, h⟩ := h
    obtain ⟨h1, h2, h3⟩ := hf a x hx
    obtain ⟨h4, h5⟩ := elB_ok hf (pos := pos) (show elB f op (b :: rest) = some y from hy)
    cases op with
    | And =>
      cases h
      exact ⟨s_an h2 h4 (mE mR mM x) (mE mR mM y), s_anW (h3 h0) h5 (mE mR mM x) (mE mR mM y)⟩
    | Or =>
      cases h
      exact ⟨s_or h2 h4 (mE mR mM x) (mE mR mM y), s_orW (h3 h0) h5 (mE mR mM x) (mE mR mM y)⟩
theorem elO_ok {f : Expr → Option Ex} (hf : ∀ e ir, f e = some ir → Good X C P R RM W e ir) {o : Option Expr} {ir : Ox} (h : elO f o = some ir) : PO X o (LO C W (wpO P R RM ir)) := by
  cases o with
  | none =>
    cases h
    exact s_noO
  | some e =>
    simp only [elO, Option.bind_eq_bind, Option.bind_eq_some_iff, Option.some.injEq] at h
    obtain ⟨a, ha, rfl⟩ := h
    exact s_someO (hf e a ha).2.1 (mE mR mM a)
omit mR mM in
theorem elTy_ok (x : XOk G C P R RM W X) {e : Expr} {t : Ty} (h : elTy G e = some t) : ∃ n, t.nm = some n ∧ PE X e (tC (.ty n)) ∧ notStar e = true := by
  cases e with
  | Name y p =>
    simp only [elTy, Option.bind_eq_bind, Option.bind_eq_some_iff, chk_some, Bool.and_eq_true] at h
    obtain ⟨_, ⟨⟨h1, h2⟩, h3⟩, h⟩ := h
    have hg := EC.isG_ok x.scn h1
    have hm := x.bn y h2
    obtain ⟨b1, b2, b3⟩ := badN_ok h3
    have fin : ∀ n : String, bootBuiltins y = some (.type n) → PE X (.Name y p) (tC (.ty n)) := fun n hb => pe_bltn hg hm hb rfl b3 b1
    simp only [tyNs, List.lookup_cons] at h
    repeat (split at h <;> first | (rename_i q; cases h; have q := eq_of_beq q; subst q; exact ⟨_, rfl, fin _ (by decide +kernel), rfl⟩) | skip)
    cases h
  | _ => cases h
omit mR mM in
theorem elTys_ok (x : XOk G C P R RM W X) : ∀ {es : List Expr} {ts : List Ty}, elTys G es = some ts → ∃ vs, tysV ts = some vs ∧ PTys X es vs ∧ es.length = vs.length
  | [], ts, h => by
    cases h
    exact ⟨[], rfl, pa_nil.mono fun _ _ _ q => q, rfl⟩
  | e :: es, ts, h => by
    simp only [elTys, Option.bind_eq_bind, Option.bind_eq_some_iff, Option.some.injEq] at h
    obtain ⟨a, ha, b, hb, rfl⟩ := h
    obtain ⟨n, h1, h2, h3⟩ := elTy_ok x ha
    obtain ⟨vs, h4, h5, h6⟩ := elTys_ok x hb
    refine ⟨.ty n :: vs, ?_, (pa_cons h2 h5 (star1 h3)).mono fun _ _ _ q => q, by rw [List.length_cons, List.length_cons, h6]⟩
    unfold tysV
    rw [h1, h4]
theorem cop_rule (x : XOk G C P R RM W X) (op : CmpOp) : OpR X (compareOp op) (CopR C (copOf op)) := by
  cases op
  · exact copr_eq x.K x.hu
  · exact copr_ne x.K x.hu
  · exact copr_lt x.K x.hu
  · exact copr_le x.K x.hu
  · exact copr_gt x.K x.hu
  · exact copr_ge x.K x.hu
  · exact copr_is x.K x.hu
  · exact copr_isnot x.K x.hu
  · exact copr_in x.K x.hu
  · exact copr_notin x.K x.hu
theorem bop_rule (x : XOk G C P R RM W X) {op : Operator} {o : Bop} (h : bopOf op = some o) : OpR X (binaryOp op) (R2D C (wpBin o)) := by
  cases op <;> cases h
  · exact opr_add x.K
  · exact opr_sub x.K
  · exact opr_mul x.K
  · exact opr_mod x.K
  · exact opr_pow x.K
  · exact opr_fdiv x.K
end
end SW
/-! SW, part M: the way from the text is right: expressions, as a whole. -/
namespace SW
open PySem PySem.Spec PyProof.Rows L2
/-! ### f-strings of texts and ints -/
def wpG (P : Prg) (R RM : Rec) : List Ex → D → Env → Store → PQ → PX → Prop
  | [], a, _, S, Q, _ => Q a S
  | x :: xs, a, env, S, Q, E => wpE P R RM x env S (fun b S1 => wpBin .add a b S1 fun c S2 => wpG P R RM xs c env S2 Q E) E
theorem fold_eq {P : Prg} {R RM : Rec} {env : Env} {Q : PQ} {E : PX} : ∀ (xs : List Ex) (A : Ex) (S : Store), wpE P R RM (xs.foldl (fun a x => .bin .add a x) A) env S Q E = wpE P R RM A env S (fun a S1 => wpG P R RM xs a env S1 Q E) E
  | [], A, S => rfl
  | x :: xs, A, S => by
    rw [List.foldl_cons, fold_eq xs]
    rfl
theorem s_fmt {X : Cx} {C : Cn} {W : WX} {P : Prg} {R RM : Rec} (mR : MonoR R) (mM : MonoR RM) {e : Expr} {pos : Pos} {x : Ex} (he : PE X e (LE C W (wpE P R RM x))) : PE X (.FormattedValue e (-1) none pos) (LE C W (wpE P R RM (.blt .str (.cons x .nil)))) := by
  refine (pe_fmt he).mono fun σ H Q ⟨env, S, r, q⟩ => LE.use (mE mR mM x) r q (fun _ _ z => z) fun d1 S1 v1 H1 x1 r1 q1 k1 => ?_
  cases d1 with
  | int i =>
    cases q1
    exact .inr ⟨i, rfl, k1.1, (QV.ext x1 _ _ k1.2).at r1.2.2 (.str _)⟩
  | _ => cases k1
theorem s_joined {C : Cn} {W : WX} {P : Prg} {R RM : Rec} (mR : MonoR R) (mM : MonoR RM) {σ : St2} {Q : VK} : ∀ (xs : List Ex) (s : Str) (env : Env) (S : Store) (H H0 : Hp), Ext C.K H0 H → Rl C σ H env S → wpG P R RM xs (.str s) env S (QV C H0 Q) (XW C W σ H0) →
    tJs (xs.map fun x => LE C W (wpE P R RM x)) s σ H (fun out H1 => Q (.str out) H1)
  | [], s, env, S, H, H0, x0, r, q => (QV.ext x0 _ _ q).at r.2.2 (.str _)
  | x :: xs, s, env, S, H, H0, x0, r, q => by
    rw [List.map_cons]
    refine LE.use (mE mR mM x) r q (XW.ext x0) fun d1 S1 v1 H1 x1 r1 q1 k1 => ?_
    cases d1 with
    | str t =>
      cases q1
      exact ⟨t, rfl, by rw [Str.length_append]; exact k1.1, s_joined mR mM xs (s ++ t) env S1 H1 H0 (x0.trans x1) r1 k1.2⟩
    | _ => cases k1
theorem s_join {X : Cx} {C : Cn} {W : WX} {P : Prg} {R RM : Rec} (mR : MonoR R) (mM : MonoR RM) {v1 v2 : Expr} {rest : List Expr} {pos : Pos} {xs : List Ex} (h : PJ X (v1 :: v2 :: rest) (xs.map fun x => LE C W (wpE P R RM x))) :
    PE X (.JoinedStr (v1 :: v2 :: rest) pos) (LE C W (wpE P R RM (xs.foldl (fun a x => .bin .add a x) (.cst (.str Str.empty))))) := by
  refine (pe_joined h).mono fun σ H Q ⟨env, S, r, q⟩ => ?_
  rw [fold_eq] at q
  exact s_joined mR mM xs Str.empty env S H H .refl r q
theorem elFs_ok {X : Cx} {C : Cn} {W : WX} {P : Prg} {R RM : Rec} (mR : MonoR R) (mM : MonoR RM) {f : Expr → Option Ex} (hf : ∀ e x, f e = some x → PE X e (LE C W (wpE P R RM x))) : ∀ {es : List Expr} {xs : List Ex}, elFs f es = some xs → PJ X es (xs.map fun x => LE C W (wpE P R RM x))
  | [], xs, h => by cases h; exact .nil
  | e :: es, xs, h => by
    simp only [elFs, Option.bind_eq_bind, Option.bind_eq_some_iff, Option.some.injEq] at h
    obtain ⟨a, ha, b, hb, rfl⟩ := h
    refine .cons ?_ (elFs_ok mR mM hf hb)
    unfold elFp at ha
    split at ha
    · split at ha
      · rename_i hc
        simp only [Option.bind_eq_some_iff, Option.some.injEq] at ha
        obtain ⟨x, hx, rfl⟩ := ha
        subst hc
        exact s_fmt mR mM (hf _ _ hx)
      · cases ha
    · cases ha
      exact s_cst pe_str fun _ => .str _
    · cases ha
section
variable {P : Prg} {R RM : Rec} (mR : MonoR R) (mM : MonoR RM)
theorem s_rvs {X : Cx} {C : Cn} {W : WX} (hK : X.K = C.K) {a : Expr} {k : Nat} {p1 p2 p3 pos : Pos} {wa : WE} (ha : PE X a (LE C W wa)) (ma : MonoE wa) :
    PE X (.Subscript a (.Slice none none (some (.UnaryOp .USub (.Constant (.int 1) k p1) p2)) p3) pos) (LE C W fun env S Q E => wa env S (fun x S1 => ∃ xs, seqRef S1 x = some xs ∧ ∀ p, S1 p = none → Q (.ref p) (S1.upd p (.lst xs.reverse))) E) := by
  refine (pe_revL ha).mono fun σ H Q ⟨env, S, r, q⟩ => LE.use ma r q (fun _ _ z => z) fun d1 S1 v1 H1 x1 r1 q1 ⟨xs, e, k⟩ => ?_
  have rev : ∀ {vs : List V} {ds : List D}, RVs C.K H1 vs ds → RVs C.K H1 vs.reverse ds.reverse := by
    intro vs ds h
    induction ds generalizing vs with
    | nil => cases h; exact .nil
    | cons d ds ih =>
      cases h with
      | cons h1 h2 =>
        rw [List.reverse_cons, List.reverse_cons]
        exact (ih h2).append (.cons h1 .nil)
  have fin : ∀ (p : Addr) (vs : List V), SqL C.K H1 p vs → RVs C.K H1 vs xs → ∃ a xs', V.ref p = .ref a ∧ SqL X.K H1 a xs' ∧ ∀ p, H1 p = none → Q (.ref p) (L2.upd H1 p (.lst xs'.reverse)) := fun p vs h rr =>
    ⟨p, vs, rfl, hK ▸ h, fun l hl => QV.new (fun p hp => QV.ext x1 _ _ (k p hp)) r1.2.2 (rev rr) hl⟩
  cases q1 with
  | rl t rr => cases e; exact fin _ _ t.sq rr
  | ref a =>
    simp only [seqRef] at e
    cases e1 : S1 a with
    | none => rw [e1] at e; cases e
    | some c =>
      rw [e1] at e
      cases c with
      | lst ys =>
        cases e
        obtain ⟨vs, e2, q⟩ := r1.2.2.lst e1
        exact fin _ _ (.of e2) q
      | dic _ => cases e
      | ins _ _ => cases e
      | fz _ => cases e
  | _ => cases e
/-- targets -/
theorem asgTs_len : ∀ {ts : Tgs} {ds : List D} {env env2 : Env}, asgTs ts ds env = some env2 → ∀ {ds' env' env2'}, asgTs ts ds' env' = some env2' → ds.length = ds'.length
  | .nil, [], _, _, _, [], _, _, _ => rfl
  | .nil, _ :: _, _, _, h, _, _, _, _ => by cases h
  | .nil, [], _, _, _, _ :: _, _, _, h => by cases h
  | .cons t ts, [], _, _, h, _, _, _, _ => by cases h
  | .cons t ts, _ :: _, _, _, _, [], _, _, h => by cases h
  | .cons t ts, d :: ds, env, env2, h, d' :: ds', env', env2', h' => by
    simp only [asgTs] at h h'
    split at h
    · cases h
    · split at h'
      · cases h'
      · exact congrArg (· + 1) (asgTs_len h h')
def tgsLen : Tgs → Nat
  | .nil => 0
  | .cons _ ts => tgsLen ts + 1
theorem asgTs_n : ∀ {ts : Tgs} {ds : List D} {env env2 : Env}, asgTs ts ds env = some env2 → ds.length = tgsLen ts
  | .nil, [], _, _, _ => rfl
  | .nil, _ :: _, _, _, h => by cases h
  | .cons t ts, [], _, _, h => by cases h
  | .cons t ts, d :: ds, env, env2, h => by
    simp only [asgTs] at h
    split at h
    · cases h
    · exact congrArg (· + 1) (asgTs_n h)
theorem elTs_len : ∀ {n : Nat} {G : EC} {es : List Expr} {ts : Tgs}, elTs n G es = some ts → tgsLen ts = es.length ∧ ∀ env, (assignEach es env).length = es.length ∧ (assignEach es env).findIdx? (·.1) = none
  | 0, _, _, _, h => by simp only [elTs] at h; cases h
  | n + 1, G, [], ts, h => by
    simp only [elTs] at h
    cases h
    exact ⟨rfl, fun _ => ⟨rfl, rfl⟩⟩
  | n + 1, G, e :: es, ts, h => by
    simp only [elTs, Option.bind_eq_bind, Option.bind_eq_some_iff, Option.some.injEq] at h
    obtain ⟨t, ht, ts', hts, rfl⟩ := h
    obtain ⟨h1, h2⟩ := elTs_len hts
    refine ⟨congrArg (· + 1) h1, fun env => ?_⟩
    have e1 : assignEach (e :: es) env = (false, assign e env) :: assignEach es env := by
      cases n with
      | zero => simp only [elT] at ht; cases ht
      | succ n => cases e <;> first | rfl | (simp only [elT] at ht; cases ht)
    rw [e1]
    refine ⟨congrArg (· + 1) (h2 env).1, ?_⟩
    rw [List.findIdx?_cons, (h2 env).2]
    rfl
mutual
theorem elT_ok {G : EC} {C : Cn} {W : WX} {X : Cx} (x : XOk G C P R RM W X) : ∀ {n : Nat} {e : Expr} {t : Tg}, elT n G e = some t → PG X e (LG C t)
  | 0, _, _, h => by simp only [elT] at h; cases h
  | n + 1, .Name y p, t, h => by
    simp only [elT, Option.bind_eq_bind, Option.bind_eq_some_iff, chk_some, Option.some.injEq] at h
    obtain ⟨_, h1, i, hi, rfl⟩ := h
    obtain ⟨h2, h3⟩ := EC.sto_ok x.scn x.fnc h1
    exact g_name (pg_name x.nd (by rw [x.N]; exact ixOf_ok hi) h2 h3)
  | n + 1, .Tuple es k p, t, h => by
    simp only [elT, Option.bind_eq_bind, Option.bind_eq_some_iff, Option.some.injEq] at h
    obtain ⟨ts, hts, rfl⟩ := h
    obtain ⟨h1, h2⟩ := elTs_len hts
    exact g_tup x.K x.calm (elTs_ok x hts) es.length (h2 _).1 (h2 _).2 fun ds env env2 q => (asgTs_n q).trans h1
  | n + 1, .BoolOp .., t, h => by simp only [elT] at h; cases h
  | n + 1, .NamedExpr .., t, h => by simp only [elT] at h; cases h
  | n + 1, .BinOp .., t, h => by simp only [elT] at h; cases h
  | n + 1, .UnaryOp .., t, h => by simp only [elT] at h; cases h
  | n + 1, .Lambda .., t, h => by simp only [elT] at h; cases h
  | n + 1, .IfExp .., t, h => by simp only [elT] at h; cases h
  | n + 1, .Dict .., t, h => by simp only [elT] at h; cases h
  | n + 1, .Set .., t, h => by simp only [elT] at h; cases h
  | n + 1, .ListComp .., t, h => by simp only [elT] at h; cases h
  | n + 1, .SetComp .., t, h => by simp only [elT] at h; cases h
  | n + 1, .DictComp .., t, h => by simp only [elT] at h; cases h
  | n + 1, .GeneratorExp .., t, h => by simp only [elT] at h; cases h
  | n + 1, .Await .., t, h => by simp only [elT] at h; cases h
  | n + 1, .Yield .., t, h => by simp only [elT] at h; cases h
  | n + 1, .YieldFrom .., t, h => by simp only [elT] at h; cases h
  | n + 1, .Compare .., t, h => by simp only [elT] at h; cases h
  | n + 1, .Call .., t, h => by simp only [elT] at h; cases h
  | n + 1, .FormattedValue .., t, h => by simp only [elT] at h; cases h
  | n + 1, .JoinedStr .., t, h => by simp only [elT] at h; cases h
  | n + 1, .Constant .., t, h => by simp only [elT] at h; cases h
  | n + 1, .Attribute .., t, h => by simp only [elT] at h; cases h
  | n + 1, .Subscript .., t, h => by simp only [elT] at h; cases h
  | n + 1, .Starred .., t, h => by simp only [elT] at h; cases h
  | n + 1, .List .., t, h => by simp only [elT] at h; cases h
  | n + 1, .Slice .., t, h => by simp only [elT] at h; cases h
theorem elTs_ok {G : EC} {C : Cn} {W : WX} {X : Cx} (x : XOk G C P R RM W X) : ∀ {n : Nat} {es : List Expr} {ts : Tgs}, elTs n G es = some ts → PGs X es (LGs C ts)
  | 0, _, _, h => by simp only [elTs] at h; cases h
  | n + 1, [], ts, h => by
    simp only [elTs] at h
    cases h
    exact g_nil
  | n + 1, e :: es, ts, h => by
    have hl := elTs_len h
    simp only [elTs, Option.bind_eq_bind, Option.bind_eq_some_iff, Option.some.injEq] at h
    obtain ⟨t, ht, ts', hts, rfl⟩ := h
    refine g_cons (elT_ok x ht) (elTs_ok x hts) ?_
    cases n with
    | zero => simp only [elT] at ht; cases ht
    | succ n => cases e <;> first | rfl | (simp only [elT] at ht; cases ht)
end
theorem assign1 {n : Nat} {G : EC} {e : Expr} {t : Tg} {env : PySem.Env} (h : elT n G e = some t) : (assignEach [e] env).map (·.2) = [assign e env] := by
  cases n with
  | zero => simp only [elT] at h; cases h
  | succ n => cases e <;> first | rfl | (simp only [elT] at h; cases h)
theorem bmtNs_ok {m : Str} {b : Bmt} (hb : bmtNs.lookup m = some b) : bmtNm b = m := by
  simp only [bmtNs, List.lookup_cons] at hb
  repeat (split at hb <;> first | (rename_i q; cases hb; exact (eq_of_beq q).symm) | skip)
  cases hb
include mR mM
theorem elI_ok {G : EC} {C : Cn} {W : WX} {X : Cx} (x : XOk G C P R RM W X) {f : Expr → Option Ex} (hf : ∀ e ir, f e = some ir → Good X C P R RM W e ir) {tg iter : Expr} {it : Itx} (h : elI f G tg iter = some it) :
    PI X tg iter (LI C W (wpI P R RM it)) ∧ ∀ v, foldedSetIterable iter X.env v = pure v := by
  have plain : ∀ (e : Expr) (a : Ex), f e = some a → PI X tg e (LI C W (wpI P R RM (.seq a))) := fun e a ha => i_seq x.K (hf e a ha).2.1 (mE mR mM a)
  unfold elI at h
  split at h
  · split at h
    · rename_i y p args pos hy
      simp only [Option.bind_eq_bind, Option.bind_eq_some_iff, chk_some, Bool.and_eq_true] at h
      obtain ⟨_, ⟨h1, h2⟩, h⟩ := h
      subst hy
      have hg := EC.isG_ok x.scn h1
      have hm := x.bn _ h2
      split at h
      · simp only [Option.bind_eq_bind, Option.bind_eq_some_iff, Option.some.injEq] at h
        obtain ⟨a', ha, rfl⟩ := h
        obtain ⟨g1, g2, _⟩ := hf _ _ ha
        exact ⟨i_rng1 hg hm g2 (mE mR mM a') g1, fun _ => rfl⟩
      · simp only [Option.bind_eq_bind, Option.bind_eq_some_iff, Option.some.injEq] at h
        obtain ⟨a', ha, b', hb, rfl⟩ := h
        obtain ⟨g1, g2, _⟩ := hf _ _ ha
        obtain ⟨g3, g4, _⟩ := hf _ _ hb
        exact ⟨i_rng2 hg hm g2 g4 (mE mR mM a') (mE mR mM b') g1 g3, fun _ => rfl⟩
      · cases h
    · split at h
      · rename_i y p args pos _ hy
        simp only [Option.bind_eq_bind, Option.bind_eq_some_iff, chk_some, Bool.and_eq_true] at h
        obtain ⟨_, ⟨h1, h2, h3⟩, h⟩ := h
        subst hy
        have hg := EC.isG_ok x.scn h1
        have hm := x.bn _ h2
        split at h
        · simp only [Option.bind_eq_bind, Option.bind_eq_some_iff, Option.some.injEq] at h
          obtain ⟨a', ha, rfl⟩ := h
          obtain ⟨g1, g2, _⟩ := hf _ _ ha
          cases tg with
          | Tuple elts kk tpos => exact ⟨i_enu x.K hg hm g2 (mE mR mM a') g1, fun _ => rfl⟩
          | _ => cases h3
        · cases h
      · split at h
        · rename_i y p args pos _ _ hy
          simp only [Option.bind_eq_bind, Option.bind_eq_some_iff, chk_some, Bool.and_eq_true] at h
          obtain ⟨_, ⟨h1, h2, h3⟩, h⟩ := h
          subst hy
          have hg := EC.isG_ok x.scn h1
          have hm := x.bn _ h2
          split at h
          · simp only [Option.bind_eq_bind, Option.bind_eq_some_iff, Option.some.injEq] at h
            obtain ⟨a', ha, b', hb, rfl⟩ := h
            obtain ⟨g1, g2, _⟩ := hf _ _ ha
            obtain ⟨g3, g4, _⟩ := hf _ _ hb
            cases tg with
            | Tuple elts kk tpos => exact ⟨i_zip x.K hg hm g2 g4 (mE mR mM a') (mE mR mM b') g1 g3, fun _ => rfl⟩
            | _ => cases h3
          · cases h
        · simp only [Option.bind_eq_bind, Option.bind_eq_some_iff, Option.some.injEq] at h
          obtain ⟨a, ha, rfl⟩ := h
          exact ⟨plain _ a ha, fun _ => rfl⟩
  · simp only [Option.bind_eq_bind, Option.bind_eq_some_iff, chk_some, Option.some.injEq] at h
    obtain ⟨_, h1, a, ha, rfl⟩ := h
    refine ⟨plain _ a ha, fun v => ?_⟩
    cases iter <;> first | rfl | cases h1
omit mR mM in
theorem XOk.blk {G : EC} {C : Cn} {W : WX} {X : Cx} (x : XOk G C P R RM W X) {scope : Scope} {own : List (Str × Nat)} (ok : BlkOk X.N X.env.scope scope own) (s : Shared) (H : Hp) (a : Addr) (cl : List (Str × Addr)) (fp : List Addr) :
    XOk (G.blk scope) C P R RM noW (X.blk s H scope (compEnvC scope cl a X.env) fp) where
  K := x.K
  N := x.N
  nd := x.nd
  scn := by
    show (relabel scope X.env).names = relabelN G.sc scope.names
    unfold relabel relabelN
    rw [← x.scn]
    have e : (X.env.scope.kind == ScopeKind.function) = true := by rw [x.sck]; rfl
    simp only [e, Bool.and_true]
    rfl
  sck := ok.kind
  fnc := fun y hy => by
    have hy : ((scope.names.filter fun p => p.2 == .cell).map (·.1)).contains y = true := hy
    rw [List.contains_iff_mem, List.mem_map] at hy
    obtain ⟨p, hp, e⟩ := hy
    rw [List.mem_filter] at hp
    have u := ok.uniq p hp.1
    show (scope.names.lookup y == some .cell) = true
    rw [← e, u]
    exact hp.2
  calm := x.calm
  hu := x.hu
  tk := fun u s' ⟨_, _, _, _, _, _, _, _, _, _, _, _, _, _, _, _, w⟩ => w.elim
  po := PassesOwn.never
  F := x.F
  gl := fun y g h => by
    have q := x.gl y g h
    cases g with
    | cst d => exact q
    | fn f => obtain ⟨b, h1, h2, h3⟩ := q; exact ⟨b, h1, h2, fun Y W' s => h3 Y W' ⟨s.prog, s.w, s.K, s.mg, s.base, s.A⟩⟩
    | cls c => obtain ⟨b, h1, h2, h3⟩ := q; exact ⟨b, h1, h2, fun Y W' s => h3 Y W' ⟨s.prog, s.w, s.K, s.mg, s.base, s.A⟩⟩
    | exc c => exact q
  bn := x.bn
  fld := x.fld
  mnm := x.mnm
  mth := fun m Y W' s => x.mth m Y W' ⟨s.prog, s.w, s.K, s.mg, s.base, s.A⟩
  sub := x.sub
  isx := x.isx
theorem comp_parts {n : Nat} {G : EC} {C : Cn} {W : WX} {X : Cx} (x : XOk G C P R RM W X) {r : EC → Expr → Option Ex} (hf : ∀ e ir, r G e = some ir → Good X C P R RM W e ir)
    (ih : ∀ (G' : EC) (W' : WX) (X' : Cx), XOk G' C P R RM W' X' → ∀ e ir, r G' e = some ir → Good X' C P R RM W' e ir) {elt tg iter : Expr} {ifs : List Expr} {scope : Scope} {ir : Ex}
    (h : (do
      let it ← elI (r G) G tg iter
      let own ← mapO (fun x => (ixOf x G.N).map fun i => (x, i)) (tgNs n tg)
      chk (blkC G.N (scOf G.sc) scope own)
      let t ← elT n (G.blk scope) tg
      chk (tgIn (own.map (·.2)) t)
      let c ← elC (r (G.blk scope)) ifs
      let e ← r (G.blk scope) elt
      some (Ex.comp e t it c (own.map (·.2)))) = some ir) :
    ∃ (it : Itx) (own : List (Str × Nat)) (t : Tg) (c v : Ex), ir = .comp v t it c (own.map (·.2)) ∧ PI X tg iter (LI C W (wpI P R RM it)) ∧ (∀ z, foldedSetIterable iter X.env z = pure z) ∧ BlkOk X.N X.env.scope scope own ∧
      (∀ (s : Shared) (H : Hp) (a : Addr) (cl : List (Str × Addr)) (fp : List Addr), PG (X.blk s H scope (compEnvC scope cl a X.env) fp) tg (LG C t)) ∧
      (∀ (s : Shared) (H : Hp) (a : Addr) (cl : List (Str × Addr)) (fp : List Addr), PTs (X.blk s H scope (compEnvC scope cl a X.env) fp) ifs (LT C noW (wpE P R RM c))) ∧
      (∀ (s : Shared) (H : Hp) (a : Addr) (cl : List (Str × Addr)) (fp : List Addr), PE (X.blk s H scope (compEnvC scope cl a X.env) fp) elt (LE C noW (wpE P R RM v))) ∧ tgIn (own.map (·.2)) t = true := by
  simp only [Option.bind_eq_bind, Option.bind_eq_some_iff, chk_some, Option.some.injEq] at h
  obtain ⟨it, hit, own, hown, _, hblk, t, ht, _, hin, c, hc, v, hv, rfl⟩ := h
  obtain ⟨i1, i2⟩ := elI_ok mR mM x hf hit
  have ok0 := blkOk_by hblk
  have ok : BlkOk X.N X.env.scope scope own := ⟨ok0.kind, ok0.uniq, by rw [x.N]; exact ok0.ix, fun y hy e => by rw [x.scn]; exact ok0.free y hy e, by rw [x.N]; exact ok0.own⟩
  have xb := fun s H a cl fp => x.blk ok s H a cl fp
  refine ⟨it, own, t, c, v, rfl, i1, i2, ok, fun s H a cl fp => elT_ok (xb s H a cl fp) ht, fun s H a cl fp => ?_, fun s H a cl fp => (ih _ _ _ (xb s H a cl fp) _ _ hv).2.1, hin⟩
  unfold elC at hc
  split at hc
  · cases hc
    exact ⟨fun pins s σ H Q I ⟨env, S, r, q⟩ => pts_nil.run pins s σ H Q I (by
      obtain ⟨b, e, z⟩ := q
      cases e
      exact z H Ext.refl r.2.2)⟩
  · simp only [Option.bind_eq_bind, Option.bind_eq_some_iff, chk_some] at hc
    obtain ⟨_, h0, hc⟩ := hc
    exact pts_one ((ih _ _ _ (xb s H a cl fp) _ _ hc).2.2 h0)
  · cases hc
omit mR mM in
theorem isB_ok {G : EC} {x y : Str} (h : isB G x y = true) : x = y ∧ G.isG x = true ∧ G.bn.contains x = true := by
  unfold isB at h
  rw [Bool.and_eq_true, Bool.and_eq_true, decide_eq_true_eq] at h
  exact h
omit mR mM in
theorem special1 {G : EC} {x : Str} {args : List Expr} {a : Expr} (h : special G x args = some (.lr1 a)) : ∃ p pos, args = [.Call (.Name "range" p) [a] [] pos] ∧ x = "list" ∧ G.isG "list" = true ∧ G.bn.contains "list" = true ∧ G.isG "range" = true ∧ G.bn.contains "range" = true ∧ notStar a = true := by
  unfold special at h
  split at h
  · split at h
    · rename_i hc
      cases h
      rw [Bool.and_eq_true, Bool.and_eq_true] at hc
      obtain ⟨rfl, a1, a2⟩ := isB_ok hc.1
      obtain ⟨rfl, b1, b2⟩ := isB_ok hc.2.1
      exact ⟨_, _, rfl, rfl, a1, a2, b1, b2, hc.2.2⟩
    · cases h
  · split at h <;> cases h
  · cases h
omit mR mM in
theorem special2 {G : EC} {x : Str} {args : List Expr} {a b : Expr} (h : special G x args = some (.lr2 a b)) : ∃ p pos, args = [.Call (.Name "range" p) [a, b] [] pos] ∧ x = "list" ∧ G.isG "list" = true ∧ G.bn.contains "list" = true ∧ G.isG "range" = true ∧ G.bn.contains "range" = true ∧ notStar a = true ∧ notStar b = true := by
  unfold special at h
  split at h
  · split at h <;> cases h
  · split at h
    · rename_i hc
      cases h
      rw [Bool.and_eq_true, Bool.and_eq_true, Bool.and_eq_true] at hc
      obtain ⟨rfl, a1, a2⟩ := isB_ok hc.1
      obtain ⟨rfl, b1, b2⟩ := isB_ok hc.2.1
      exact ⟨_, _, rfl, rfl, a1, a2, b1, b2, hc.2.2.1, hc.2.2.2⟩
    · cases h
  · cases h
theorem elPairs_ok {X : Cx} {C : Cn} {W : WX} {pos : Pos} {f : Expr → Option Ex} (hf : ∀ e ir, f e = some ir → Good X C P R RM W e ir) : ∀ {ks : List (Option Expr)} {vs : List Expr} {xs : Exs}, elPairs f ks vs = some xs →
    ∃ trs, PPs X pos ks vs trs ∧ PrOk C W trs (wpEs P R RM xs) ∧ ks.all (·.isSome) = true ∧ ks.length = vs.length
  | [], [], xs, h => by
    cases h
    exact ⟨[], pps_nil, pr_nil, rfl, rfl⟩
  | some k :: ks, v :: vs, xs, h => by
    simp only [elPairs, Option.bind_eq_bind, Option.bind_eq_some_iff, Option.some.injEq] at h
    obtain ⟨a, ha, b, hb, c, hc, rfl⟩ := h
    obtain ⟨trs, t1, t2, t3, t4⟩ := elPairs_ok hf hc
    obtain ⟨_, h1, _⟩ := hf _ _ ha
    obtain ⟨_, h2, _⟩ := hf _ _ hb
    exact ⟨_, pps_cons h1 h2 t1, pr_cons (mE mR mM a) (mE mR mM b) (mEs mR mM c) t2, by rw [List.all_cons, t3]; rfl, by rw [List.length_cons, List.length_cons, t4]⟩
  | none :: _, _ :: _, xs, h => by cases h
  | [], _ :: _, xs, h => by cases h
  | none :: _, [], xs, h => by cases h
  | some _ :: _, [], xs, h => by cases h
theorem elE_ok : ∀ (n : Nat) {G : EC} {C : Cn} {W : WX} {X : Cx} (x : XOk G C P R RM W X) (e : Expr) (ir : Ex), elE n G e = some ir → Good X C P R RM W e ir := by
  intro n
  induction n with
  | zero => intro G C W X x e ir h; simp only [elE] at h; cases h
  | succ n ih =>
    intro G C W X x e ir h
    have hf : ∀ e ir, elE n G e = some ir → Good X C P R RM W e ir := fun e ir h => ih x e ir h
    have sm : Same X X := ⟨rfl, rfl, rfl, rfl, rfl, rfl⟩
    replace h : elX (elE n) n G e = some ir := h
    unfold elX at h
    split at h
    · -- a name
      simp only [Option.bind_eq_bind, Option.bind_eq_some_iff, chk_some] at h
      obtain ⟨_, hb, h⟩ := h
      obtain ⟨b1, b2, b3⟩ := badN_ok hb
      split at h
      · rename_i hv
        simp only [Option.bind_eq_bind, Option.bind_eq_some_iff, Option.some.injEq] at h
        obtain ⟨i, hi, rfl⟩ := h
        exact .plain mR mM rfl (s_var (pe_var (by rw [x.N]; exact ixOf_ok hi) (EC.vis_ok x.scn hv) b1 b2)) fun _ => rfl
      · simp only [Option.bind_eq_bind, Option.bind_eq_some_iff, chk_some] at h
        obtain ⟨_, hg, h⟩ := h
        split at h
        · cases h
          rename_i hl
          obtain ⟨v, u, h1, h2, h3⟩ := x.gl _ _ hl
          exact .plain mR mM rfl (s_cst (pe_glob (EC.isG_ok x.scn hg) h1 h2 b1) h3) fun _ => rfl
        · cases h
    · -- a constant
      split at h <;> first | (cases h; skip) | skip
      · exact .plain mR mM rfl (s_cst pe_non fun _ => .non) fun _ => rfl
      · exact .plain mR mM rfl (s_cst pe_bl fun _ => .bl _) fun _ => rfl
      · exact .plain mR mM rfl (s_cst pe_int fun _ => .int _) fun _ => rfl
      · exact .plain mR mM rfl (s_cst pe_str fun _ => .str _) fun _ => rfl
    · -- a binary operator
      simp only [Option.bind_eq_bind, Option.bind_eq_some_iff, Option.some.injEq] at h
      obtain ⟨o, ho, a, ha, b, hb, rfl⟩ := h
      obtain ⟨_, h1, _⟩ := hf _ _ ha
      obtain ⟨_, h2, _⟩ := hf _ _ hb
      exact .plain mR mM rfl (s_bin (bop_rule mR mM x ho) h1 h2 (mE mR mM a) (mE mR mM b)) fun _ => rfl
    · -- not
      simp only [Option.bind_eq_bind, Option.bind_eq_some_iff, chk_some, Option.some.injEq] at h
      obtain ⟨_, h0, a, ha, rfl⟩ := h
      obtain ⟨_, h1, h2⟩ := hf _ _ ha
      exact ⟨rfl, s_no h1 (mE mR mM a), fun _ => s_noT (h2 h0) (mE mR mM a)⟩
    · -- minus
      simp only [Option.bind_eq_bind, Option.bind_eq_some_iff, Option.some.injEq] at h
      obtain ⟨a, ha, rfl⟩ := h
      obtain ⟨_, h1, h2⟩ := hf _ _ ha
      exact .plain mR mM rfl (s_neg h1 (mE mR mM a)) fun _ => rfl
    · -- and, or
      obtain ⟨h1, h2⟩ := elB_ok mR mM hf h
      exact ⟨rfl, h1, fun _ => h2.pt⟩
    · -- a comparison
      simp only [Option.bind_eq_bind, Option.bind_eq_some_iff, chk_some, Option.some.injEq, Bool.not_eq_true'] at h
      obtain ⟨_, h0, a, ha, b, hb, rfl⟩ := h
      obtain ⟨_, h1, _⟩ := hf _ _ ha
      obtain ⟨_, h2, _⟩ := hf _ _ hb
      exact ⟨rfl, s_cmp (cop_rule mR mM x _) h1 h2 (mE mR mM a) (mE mR mM b) h0, fun _ => s_cmpT (cop_rule mR mM x _) h1 h2 (mE mR mM a) (mE mR mM b) h0⟩
    · -- a chain
      simp only [Option.bind_eq_bind, Option.bind_eq_some_iff, chk_some, Option.some.injEq, Bool.not_eq_true'] at h
      obtain ⟨_, h0, a, ha, b, hb, c, hc, rfl⟩ := h
      obtain ⟨_, h1, _⟩ := hf _ _ ha
      obtain ⟨_, h2, _⟩ := hf _ _ hb
      obtain ⟨_, h3, _⟩ := hf _ _ hc
      exact ⟨rfl, s_chn (cop_rule mR mM x _) (cop_rule mR mM x _) h1 h2 h3 (mE mR mM a) (mE mR mM b) (mE mR mM c) h0, fun _ => s_chnT (cop_rule mR mM x _) (cop_rule mR mM x _) h1 h2 h3 (mE mR mM a) (mE mR mM b) (mE mR mM c) h0⟩
    · -- a if t else b
      simp only [Option.bind_eq_bind, Option.bind_eq_some_iff, chk_some, Option.some.injEq] at h
      obtain ⟨_, h0, z, hz, a, ha, b, hb, rfl⟩ := h
      obtain ⟨_, _, h1⟩ := hf _ _ hz
      obtain ⟨_, h2, _⟩ := hf _ _ ha
      obtain ⟨_, h3, _⟩ := hf _ _ hb
      exact ⟨rfl, s_ife (h1 h0) h2 h3 (mE mR mM z) (mE mR mM a) (mE mR mM b), fun z => by cases z⟩
    · -- a tuple
      simp only [Option.bind_eq_bind, Option.bind_eq_some_iff, Option.some.injEq] at h
      obtain ⟨xs, hxs, rfl⟩ := h
      obtain ⟨_, h1, _⟩ := elEs_ok mR mM hf hxs
      exact .plain mR mM rfl (s_tup h1 (mEs mR mM xs)) fun _ => rfl
    · -- a list
      simp only [Option.bind_eq_bind, Option.bind_eq_some_iff, Option.some.injEq] at h
      obtain ⟨xs, hxs, rfl⟩ := h
      obtain ⟨_, h1, _⟩ := elEs_ok mR mM hf hxs
      exact .plain mR mM rfl (s_lst h1 (mEs mR mM xs)) fun _ => rfl
    · -- {}
      cases h
      exact .plain mR mM rfl (s_dnew (C := C) (W := W)) fun _ => rfl
    · -- a display
      rename_i k ks vs dpos
      simp only [Option.bind_eq_bind, Option.bind_eq_some_iff, chk_some, decide_eq_true_eq, Option.some.injEq] at h
      obtain ⟨_, h15, xs, hxs, rfl⟩ := h
      obtain ⟨trs, t1, t2, t3, t4⟩ := elPairs_ok mR mM (pos := dpos) hf hxs
      cases xs with
      | nil =>
        cases vs with
        | nil => cases k <;> cases hxs
        | cons v vs =>
          cases k with
          | none => cases hxs
          | some k =>
            simp only [elPairs, Option.bind_eq_bind, Option.bind_eq_some_iff, Option.some.injEq, reduceCtorEq, and_false, exists_false] at hxs
      | cons e es => exact .plain mR mM rfl (s_disp (mEs mR mM (.cons e es)) t1 t2 t3 t4 (List.cons_ne_nil _ _) h15) fun _ => rfl
    · -- turned about
      simp only [Option.bind_eq_bind, Option.bind_eq_some_iff, Option.some.injEq] at h
      obtain ⟨a, ha, rfl⟩ := h
      obtain ⟨_, h1, _⟩ := hf _ _ ha
      exact .plain mR mM rfl (s_rvs x.K h1 (mE mR mM a)) fun _ => rfl
    · -- a slice
      simp only [Option.bind_eq_bind, Option.bind_eq_some_iff, Option.some.injEq] at h
      obtain ⟨a, ha, l, hl, u, hu, rfl⟩ := h
      obtain ⟨_, h1, _⟩ := hf _ _ ha
      exact .plain mR mM rfl (s_slc x.K x.hu h1 (elO_ok mR mM hf hl) (elO_ok mR mM hf hu) (mE mR mM a) (mO mR mM l) (mO mR mM u)) fun _ => rfl
    · -- a subscript
      simp only [Option.bind_eq_bind, Option.bind_eq_some_iff, chk_some, Option.some.injEq] at h
      obtain ⟨_, h0, a, ha, b, hb, rfl⟩ := h
      obtain ⟨_, h1, _⟩ := hf _ _ ha
      obtain ⟨_, h2, _⟩ := hf _ _ hb
      exact .plain mR mM rfl (s_ix x.K x.hu h1 h2 (mE mR mM a) (mE mR mM b) (NoPlain h0)) fun _ => rfl
    · -- a field
      simp only [Option.bind_eq_bind, Option.bind_eq_some_iff, chk_some, Option.some.injEq] at h
      obtain ⟨_, h0, a, ha, i, hi, rfl⟩ := h
      obtain ⟨_, h1, _⟩ := hf _ _ ha
      obtain ⟨f1, f2⟩ := x.fld _ _ hi
      exact .plain mR mM rfl (s_fld x.K x.F f1 f2 h1 (mE mR mM a) h0) fun _ => rfl
    · -- a call of a name
      rename_i y p args pos
      split at h
      · rename_i a hsp
        obtain ⟨p2, pos2, rfl, rfl, g1, g2, g3, g4, n1⟩ := special1 hsp
        simp only [Option.bind_eq_bind, Option.bind_eq_some_iff, Option.some.injEq] at h
        obtain ⟨ia, ha, rfl⟩ := h
        obtain ⟨_, h1, _⟩ := hf _ _ ha
        exact .plain mR mM rfl (s_lr1 x.calm (EC.isG_ok x.scn g1) (x.bn _ g2) (EC.isG_ok x.scn g3) (x.bn _ g4) h1 (mE mR mM ia) n1) fun _ => rfl
      · rename_i a b hsp
        obtain ⟨p2, pos2, rfl, rfl, g1, g2, g3, g4, n1, n2⟩ := special2 hsp
        simp only [Option.bind_eq_bind, Option.bind_eq_some_iff, Option.some.injEq] at h
        obtain ⟨ia, ha, ib, hb, rfl⟩ := h
        obtain ⟨_, h1, _⟩ := hf _ _ ha
        obtain ⟨_, h2, _⟩ := hf _ _ hb
        exact .plain mR mM rfl (s_lr2 x.calm (EC.isG_ok x.scn g1) (x.bn _ g2) (EC.isG_ok x.scn g3) (x.bn _ g4) h1 h2 (mE mR mM ia) (mE mR mM ib) n1 n2) fun _ => rfl
      unfold elCall at h
      simp only [Option.bind_eq_bind, Option.bind_eq_some_iff, chk_some, Bool.and_eq_true] at h
      obtain ⟨_, ⟨hg, hb⟩, h⟩ := h
      obtain ⟨b1, b2, b3⟩ := badN_ok hb
      have hg := EC.isG_ok x.scn hg
      split at h
      · rename_i f hl
        simp only [Option.bind_eq_bind, Option.bind_eq_some_iff, Option.some.injEq] at h
        obtain ⟨xs, hxs, rfl⟩ := h
        obtain ⟨s1, h1, hnil⟩ := elEs_ok mR mM hf hxs
        obtain ⟨a, m1, m2, m3⟩ := x.gl _ _ hl
        cases args with
        | nil =>
          cases hnil rfl
          exact .plain mR mM rfl (s_call0 hg m1 m2 (m3 X W sm x.tk) b1) fun _ => rfl
        | cons e es => exact .plain mR mM rfl (s_call hg m1 m2 (m3 X W sm x.tk) (fun ds S Q Q' E E' hq hE z => mR _ _ _ _ _ _ _ hq hE z) h1 (mEs mR mM xs) s1 b1) fun _ => rfl
      · rename_i c hl
        simp only [Option.bind_eq_bind, Option.bind_eq_some_iff, Option.some.injEq] at h
        obtain ⟨xs, hxs, rfl⟩ := h
        obtain ⟨s1, h1, hnil⟩ := elEs_ok mR mM hf hxs
        obtain ⟨a, m1, m2, m3⟩ := x.gl _ _ hl
        cases args with
        | nil =>
          cases hnil rfl
          exact .plain mR mM rfl (s_call0 hg m1 m2 (m3 X W sm x.tk) b1) fun _ => rfl
        | cons e es => exact .plain mR mM rfl (s_call hg m1 m2 (m3 X W sm x.tk) (fun ds S Q Q' E E' hq hE ⟨f, e1, z⟩ => ⟨f, e1, fun p hp => mM _ _ _ _ _ _ _ (fun v S2 q => ⟨q.1, hq _ _ q.2⟩) hE (z p hp)⟩) h1 (mEs mR mM xs) s1 b1) fun _ => rfl
      · cases h
      · simp only [Option.bind_eq_bind, Option.bind_eq_some_iff, chk_some] at h
        obtain ⟨_, hbn, h⟩ := h
        have hm := x.bn _ hbn
        split at h
        · rename_i hy
          subst hy
          split at h
          · simp only [Option.bind_eq_bind, Option.bind_eq_some_iff, Option.some.injEq] at h
            obtain ⟨_, hlen, a, ha, tys, ht, rfl⟩ := h
            have hlen := of_decide_eq_true (chk_some.mp hlen)
            obtain ⟨s1, h1, _⟩ := hf _ _ ha
            obtain ⟨vs, t1, t2, t3⟩ := elTys_ok x ht
            exact .plain mR mM rfl (s_isiN x.K t1 (t3 ▸ hlen) hg hm h1 (mE mR mM a) t2 s1) fun _ => rfl
          · simp only [Option.bind_eq_bind, Option.bind_eq_some_iff, Option.some.injEq] at h
            obtain ⟨a, ha, ty, ht, rfl⟩ := h
            obtain ⟨s1, h1, _⟩ := hf _ _ ha
            obtain ⟨nn, t1, t2, t3⟩ := elTy_ok x ht
            exact .plain mR mM rfl (s_isi1 x.K t1 hg hm h1 (mE mR mM a) t2 s1 t3) fun _ => rfl
          · cases h
        · simp only [Option.bind_eq_bind, Option.bind_eq_some_iff, chk_some, Option.some.injEq] at h
          obtain ⟨b, hb', _, hne, xs, hxs, rfl⟩ := h
          obtain ⟨s1, h1, hnil⟩ := elEs_ok mR mM hf hxs
          cases args with
          | nil => cases hne
          | cons e es =>
            have goB : ∀ id : String, bltVal b = .builtin id → bootBuiltins y = some (.builtin id) → Good X C P R RM W (.Call (.Name y p) (e :: es) [] pos) (.blt b xs) := fun id e1 e2 =>
              .plain mR mM rfl (s_bltF x.K x.calm x.hu e1 hg hm e2 h1 (mEs mR mM xs) s1 b3 b1) fun _ => rfl
            have goT : ∀ id : String, bltVal b = .type id → bootBuiltins y = some (.type id) → Good X C P R RM W (.Call (.Name y p) (e :: es) [] pos) (.blt b xs) := fun id e1 e2 =>
              .plain mR mM rfl (s_bltT x.K x.calm x.hu e1 hg hm e2 h1 (mEs mR mM xs) s1 b3 b1) fun _ => rfl
            simp only [bltNs, List.lookup_cons] at hb'
            repeat (split at hb' <;> first | (rename_i q; cases hb'; have q := eq_of_beq q; subst q; first | exact goB _ rfl (by decide +kernel) | exact goT _ rfl (by decide +kernel)) | skip)
            cases hb'
    · -- a method
      simp only [Option.bind_eq_bind, Option.bind_eq_some_iff, chk_some, Bool.and_eq_true, decide_eq_true_eq] at h
      obtain ⟨_, ⟨c1, c2, c3⟩, a, ha, xs, hxs, h⟩ := h
      obtain ⟨_, h1, _⟩ := hf _ _ ha
      obtain ⟨s1, h2, hnil⟩ := elEs_ok mR mM hf hxs
      have hnil' : _ = [] → wpEs P R RM xs = fun _ S Q _ => Q [] S := fun z => by rw [hnil z]; rfl
      split at h
      · cases h
        rename_i i hi
        exact .plain mR mM rfl (s_meth x.K x.F (x.mnm _ _ hi) mR (x.mth i X W sm x.tk) h1 (mE mR mM a) h2 (mEs mR mM xs) hnil' c1 s1 c2 c3) fun _ => rfl
      · simp only [Option.bind_eq_bind, Option.bind_eq_some_iff, Option.some.injEq] at h
        obtain ⟨b, hb, rfl⟩ := h
        have e1 := bmtNs_ok hb
        subst e1
        exact .plain mR mM rfl (s_bmt x.K x.hu h1 (mE mR mM a) h2 (mEs mR mM xs) hnil' c1 s1 c2 c3) fun _ => rfl
    · -- a comprehension
      obtain ⟨it, own, t, c, v, rfl, i1, i2, ok, g1, g2, g3, hin⟩ := comp_parts mR mM x hf (fun G' W' X' x' e ir h => ih x' e ir h) h
      exact .plain mR mM rfl ((pe_lc x.calm x.nd i1 ok g1 g2 g3 i2).mono (s_comp x.calm x.nd i1 (mI mR mM it) ok g1 g2 g3 (mE mR mM c) (mE mR mM v) hin)) fun _ => rfl
    · -- an f-string
      simp only [Option.bind_eq_bind, Option.bind_eq_some_iff, Option.some.injEq] at h
      obtain ⟨xs, hxs, rfl⟩ := h
      exact .plain mR mM rfl (s_join mR mM (elFs_ok mR mM (fun e x hx => (hf _ _ hx).2.1) hxs)) fun _ => rfl
    · cases h
end
end SW
/-! SW, part Ma: except suites from the text. -/
namespace SW
open PySem PySem.Spec PyProof.Rows L2
/-! ### the way from the text -/
def elQc (G : EC) : Expr → Option (Option Nat)
  | .Name x _ => do
    chk (G.isG x && !badN x)
    match G.gl.lookup x with
    | some (.exc c) => some (some c)
    | some _ => none
    | none => do
      chk (G.bn.contains x && x == ("ValueError" : Str))
      some none
  | _ => none
def elQcs (G : EC) : List Expr → Option (List (Option Nat))
  | [] => some []
  | e :: es => do
    let a ← elQc G e
    let b ← elQcs G es
    some (a :: b)
def elQB (f : Expr → Option Qx) (op : BoolOp) : List Expr → Option Qx
  | [] => none
  | [a] => f a
  | a :: b :: rest => do
    let x ← f a
    let y ← elQB f op (b :: rest)
    match op with
    | .And => some (.an x y)
    | .Or => some (.or x y)
def bopQ : Operator → Option Bop
  | .Add => some .add
  | .Sub => some .sub
  | .Mult => some .mul
  | _ => none
/-- en: the exception's name and slot -/
def elQX (r : Expr → Option Qx) (G : EC) (en : Option (Str × Nat)) : Expr → Option Qx
  | .Name x _ => do
    chk (!badN x && G.vis x)
    let i ← ixOf x G.N
    some (.var i)
  | .Constant c _ _ => match c with
    | .none => some (.cst .non)
    | .bool b => some (.cst (.bl b))
    | .int i => some (.cst (.int i))
    | .str s => some (.cst (.str s))
    | _ => none
  | .UnaryOp .Not a _ => do
    let x ← r a
    some (.no x)
  | .BoolOp op es _ => elQB r op es
  | .BinOp a op b _ => do
    let o ← bopQ op
    let x ← r a
    let y ← r b
    some (.bin o x y)
  | .Call (.Name f _) [.Name y _, t] [] _ => do
    chk (f == ("isinstance" : Str) && (G.isG f && (G.bn.contains f && (!badN y && G.vis y))))
    let (e, _) ← en
    chk (y == e)
    match t with
    | .Tuple (t1 :: ts) _ _ => do
      chk (decide ((t1 :: ts).length ≤ sizeLine))
      let c ← elQc G t1
      let cs ← elQcs G ts
      some (.isx (c :: cs))
    | t => do
      let c ← elQc G t
      some (.isx [c])
  | .Call (.Name f _) [a] [] _ => do
    chk (f == ("int" : Str) && (G.isG f && G.bn.contains f))
    let x ← r a
    some (.int x)
  | _ => none
def elQ : Nat → EC → Option (Str × Nat) → Expr → Option Qx
  | 0, _, _, _ => none
  | n + 1, G, en, e => elQX (elQ n G en) G en e
def elQs (n : Nat) (G : EC) (en : Option (Str × Nat)) : List Expr → Option (List Qx)
  | [] => some []
  | e :: es => do
    let a ← elQ n G en e
    let b ← elQs n G en es
    some (a :: b)
def enNot (en : Option (Str × Nat)) (i : Nat) : Bool := match en with
  | none => true
  | some p => p.2 != i
def elQm (n : Nat) (G : EC) (en : Option (Str × Nat)) : Stmt → Option Qm
  | .Assign [.Name y _] (.List es _) _ => do
    chk (G.sto y)
    let i ← ixOf y G.N
    chk (enNot en i)
    let xs ← elQs n G en es
    some (.lst i xs)
  | .Assign [.Name y _] e _ => do
    chk (G.sto y && noComp0 e)
    let i ← ixOf y G.N
    chk (enNot en i)
    let x ← elQ n G en e
    some (.asg i x)
  | .Expr (.Call (.Attribute (.Name y _) m apos) [e] [] pos) _ => do
    chk (m == ("append" : Str) && (!badN y && (G.vis y && (apos.endLine == pos.line))))
    let i ← ixOf y G.N
    let x ← elQ n G en e
    some (.app i x)
  | _ => none
where noComp0 : Expr → Bool
  | .ListComp _ _ _ _ => false
  | .SetComp _ _ _ _ => false
  | .DictComp _ _ _ _ _ => false
  | .Tuple _ _ _ => false
  | _ => true
def elQms (n : Nat) (G : EC) (en : Option (Str × Nat)) : List Stmt → Option (List Qm)
  | [] => some []
  | s :: ss => do
    let a ← elQm n G en s
    let b ← elQms n G en ss
    some (a :: b)
/-! ### it is right -/
theorem Rl.unset {C : Cn} {σ : St2} {H : Hp} {env : Env} {S : Store} (r : Rl C σ H env S) (i : Nat) : Rl C (σ.set i none) H (env.set i none) S := by
  refine ⟨by rw [List.length_set, List.length_set]; exact r.1, fun j e hj => ?_, r.2.2⟩
  by_cases hij : i = j
  · subst hij
    rw [List.getElem?_set] at hj
    split at hj
    · split at hj <;> cases hj
    · exact absurd rfl ‹_›
  · rw [List.getElem?_set_ne hij] at hj ⊢
    exact r.2.1 j e hj
theorem swapsWith_no0 {e : Expr} {t : Option Expr} {l : Nat} {env : PySem.Env} (h : elQm.noComp0 e = true) : swapsWith e t l env = pure false := by
  cases e <;> first | rfl | cases h
theorem sole_no0 {tg e : Expr} {l : Nat} {env : PySem.Env} (h : elQm.noComp0 e = true) : swapsWithSole [tg] e l env = pure false := swapsWith_no0 (t := some tg) h
theorem swappedStores_no0 {tg e : Expr} {env : PySem.Env} (h : elQm.noComp0 e = true) : swappedStores [tg] e env = pure none := by
  cases e <;> first | (cases tg <;> rfl) | cases h
theorem kdM_lst' {S : Store} {a : Addr} {xs : List D} (h : S a = some (.lst xs)) : kdM S (.ref a) = some .lst := by
  simp only [kdM, h]
def LQ (a : Addr) (en : Option (Str × Nat)) (w : Env → (D → Prop) → Prop) : WE := fun env S Q _ => (∀ e i, en = some (e, i) → env[i]? = some (some (.ref a))) ∧ w env fun d => Q d S
def LQs (a : Addr) (en : Option (Str × Nat)) (w : Env → (List D → Prop) → Prop) : WA := fun env S Q _ => (∀ e i, en = some (e, i) → env[i]? = some (some (.ref a))) ∧ w env fun d => Q d S
theorem mLQ {P : Prg} {c' : Nat} {a : Addr} {en : Option (Str × Nat)} (q : Qx) : MonoE (LQ a en (wpQx P c' q)) := fun _ _ _ _ _ _ hq _ h => ⟨h.1, wpQx_mono q (fun d z => hq _ _ z) h.2⟩
theorem mLQs {P : Prg} {c' : Nat} {a : Addr} {en : Option (Str × Nat)} (q : List Qx) : MonoA (LQs a en (wpQxs P c' q)) := fun _ _ _ _ _ _ hq _ h => ⟨h.1, wpQxs_mono q (fun d z => hq _ _ z) h.2⟩
/-- isinstance(e, (c1, c2, ..)), e the exception that the suite holds -/
def rIsET (K : PySem.W.Frag) (D a : Addr) : List V → Hp → VK → Prop := fun xs H Q => ∃ (tp : Addr) (cs : List V) (us : List Value) (b : Bool), xs = [.ref a, .ref tp] ∧ H tp = some (.tup cs) ∧ Paired ClsV cs us ∧ PySem.W.kitAny K (.ref D) us = some b ∧ Q (.bl b) H
theorem call_isET {X : Cx} {a D : Addr} {oe : Obj} {pn : List (Addr × Obj)} (C : ExcC X.K D) (hz : Zc (.ref D) none oe) (hf : ∃ vs, oe.data = .fields vs) : CallR (X.suite a ((a, oe) :: pn)) (.builtin "isinstance") (rIsET X.K D a) := by
  intro pins s σ H xs us Q I r h
  obtain ⟨tp, cs, ws, b, rfl, hT, k, e, q⟩ := h
  cases r with
  | cons rx rr =>
    cases rr with
    | cons rt rr =>
      cases rr
      cases rx
      cases rt
      obtain ⟨hget, _⟩ := I.pin (a, oe) (List.mem_append.mpr (.inl List.mem_cons_self))
      obtain ⟨vs, hv⟩ := hf
      have J : PySem.W.InstAt s.heap a oe D none := by
        obtain ⟨oc, od, oda, osl⟩ := oe
        obtain ⟨h1, h2⟩ := hz
        dsimp only at h1 h2 hv
        subst h1 h2 hv
        exact ⟨hget, rfl, rfl, trivial⟩
      obtain ⟨_, its, rv, o, h1, h2, n, h3⟩ := (show ObjOk X.prog X.w H s.heap tp (.tup cs) from I.hok tp _ hT)
      have e3 := ClsV.all k rv
      subst e3
      obtain ⟨oc, od, dt, sl⟩ := o
      simp only at h2 h3
      subst h2 h3
      exact PySem.W.kia_tup (PySem.W.handS_kitx_exc C.hg C.hk C.hs C.hd C.ha C.hn C.ht C.hm) I.kIn J h1 e (fun z => nomatch z) fun tk => ⟨.bl b, H, I.kept (t' := tk) fun _ _ z => z, rfl, q⟩
def clsP (C : Cn) : ∀ cs : List (Option Nat), Paired ClsV (cs.map (cvV C)) (cs.map (cvU C))
  | [] => .nil
  | none :: cs => .cons (.ty _) (clsP C cs)
  | some c :: cs => .cons (.own _) (clsP C cs)
section
variable {G : EC} {C : Cn} {P : Prg} {R RM : Rec} {W : WX} {X : Cx} (x : XOk G C P R RM W X) {a : Addr} {oe : Obj} {pn : List (Addr × Obj)} {c' : Nat} {en : Option (Str × Nat)}
include x
theorem anyI_ok : ∀ {cs : List (Option Nat)} {b : Bool}, anyI P c' cs = some b → PySem.W.kitAny C.K (.ref (C.ca c')) (cs.map (cvU C)) = some b
  | [], b, h => by cases h; rfl
  | c :: cs, b, h => by
    unfold anyI at h
    cases e : P.isx c' c with
    | none => rw [e] at h; cases h
    | some r =>
      rw [e] at h
      have k := (x.isx _ _ _ e).2
      show PySem.W.kitAny C.K (.ref (C.ca c')) (cvU C c :: cs.map (cvU C)) = some b
      unfold PySem.W.kitAny
      rw [k]
      cases r with
      | true => exact h
      | false => exact anyI_ok h
theorem elQc_ok {e : Expr} {oc : Option Nat} (h : elQc G e = some oc) : PE (X.suite a ((a, oe) :: pn)) e (tC (cvV C oc)) ∧ notStar e = true := by
  cases e with
  | Name y p =>
    simp only [elQc, Option.bind_eq_bind, Option.bind_eq_some_iff, chk_some, Bool.and_eq_true] at h
    obtain ⟨_, ⟨h1, h3⟩, h⟩ := h
    have hg : Gl X y := EC.isG_ok x.scn h1
    obtain ⟨b1, b2, b3⟩ := badN_ok h3
    split at h
    · cases h
      rename_i hl
      obtain ⟨m1, _⟩ := x.gl _ _ hl
      exact ⟨pe_glob (X := X.suite a ((a, oe) :: pn)) hg m1 rfl b1, rfl⟩
    · cases h
    · simp only [Option.bind_eq_some_iff, chk_some, Bool.and_eq_true, Option.some.injEq] at h
      obtain ⟨_, ⟨h4, h5⟩, rfl⟩ := h
      have e := eq_of_beq h5
      subst e
      exact ⟨pe_bltn (X := X.suite a ((a, oe) :: pn)) hg (x.bn _ h4) (by decide +kernel) rfl b3 b1, rfl⟩
  | _ => cases h
theorem elQcs_ok : ∀ {es : List Expr} {cs : List (Option Nat)}, elQcs G es = some cs → PTys (X.suite a ((a, oe) :: pn)) es (cs.map (cvV C)) ∧ es.length = cs.length
  | [], cs, h => by
    cases h
    exact ⟨pa_nil.mono fun _ _ _ q => q, rfl⟩
  | e :: es, cs, h => by
    simp only [elQcs, Option.bind_eq_bind, Option.bind_eq_some_iff, Option.some.injEq] at h
    obtain ⟨c, hc, b, hb, rfl⟩ := h
    obtain ⟨h2, h3⟩ := elQc_ok x (a := a) (oe := oe) (pn := pn) hc
    obtain ⟨h5, h6⟩ := elQcs_ok hb
    exact ⟨(pa_cons h2 h5 (star1 h3)).mono fun _ _ _ q => q, by rw [List.length_cons, List.length_cons, h6]⟩
/-- what is shown of an expression of a suite -/
def GoodQ (X : Cx) (C : Cn) (P : Prg) (a : Addr) (oe : Obj) (pn : List (Addr × Obj)) (c' : Nat) (en : Option (Str × Nat)) (e : Expr) (q : Qx) : Prop :=
  notStar e = true ∧ PE (X.suite a ((a, oe) :: pn)) e (LE C noW (LQ a en (wpQx P c' q)))
theorem q_bin {op : Operator} {o : Bop} (h : bopQ op = some o) : OpR (X.suite a ((a, oe) :: pn)) (binaryOp op) (R2D C (wpBin o)) := by
  have hK : (X.suite a ((a, oe) :: pn)).K = C.K := x.K
  cases op <;> cases h
  · exact opr_add hK
  · exact opr_sub hK
  · exact opr_mul hK
omit x in
theorem wpBinI_to {op : Operator} {o : Bop} (h : bopQ op = some o) {d1 d2 : D} {S : Store} {Q : PQ} (k : wpBinI o d1 d2 fun d => Q d S) : wpBin o d1 d2 S Q := by
  unfold wpBinI at k
  split at k
  · exact k
  · exact k
  · exact k
  · exact k.elim
omit x in
theorem elQB_ok {f : Expr → Option Qx} (hf : ∀ e q, f e = some q → GoodQ X C P a oe pn c' en e q) {op : BoolOp} {pos : Pos} : ∀ {es : List Expr} {q : Qx}, elQB f op es = some q →
    PE (X.suite a ((a, oe) :: pn)) (.BoolOp op es pos) (LE C noW (LQ a en (wpQx P c' q)))
  | [], q, h => by cases h
  | [e], q, h => pe_one (hf e q h).2
  | e :: e2 :: rest, q, h => by
    simp only [elQB, Option.bind_eq_bind, Option.bind_eq_some_iff] at h
    obtain ⟨q1, h1, q2, h2, h⟩ := h
    have g1 := (hf e q1 h1).2
    have g2 := elQB_ok hf (pos := pos) (show elQB f op (e2 :: rest) = some q2 from h2)
    cases op with
    | And =>
      cases h
      refine (s_an g1 g2 (mLQ q1) (mLQ q2)).mono fun σ H Q ⟨env, S, r, i, k⟩ => ⟨env, S, r, i, wpQx_mono q1 (fun d ⟨c, e, z⟩ => ⟨c, e, ?_⟩) k⟩
      cases c with
      | true => exact ⟨i, z⟩
      | false => exact z
    | Or =>
      cases h
      refine (s_or g1 g2 (mLQ q1) (mLQ q2)).mono fun σ H Q ⟨env, S, r, i, k⟩ => ⟨env, S, r, i, wpQx_mono q1 (fun d ⟨c, e, z⟩ => ⟨c, e, ?_⟩) k⟩
      cases c with
      | true => exact z
      | false => exact ⟨i, z⟩
theorem elQ_ok (hz : Zc (.ref (C.ca c')) none oe) (hf : ∃ vs, oe.data = .fields vs) (hen : ∀ e i, en = some (e, i) → ixOf e G.N = some i) : ∀ (n : Nat) (e : Expr) (q : Qx), elQ n G en e = some q → GoodQ X C P a oe pn c' en e q := by
  intro n
  induction n with
  | zero => intro e q h; simp only [elQ] at h; cases h
  | succ n ih =>
    intro e q h
    replace h : elQX (elQ n G en) G en e = some q := h
    unfold elQX at h
    split at h
    · -- a name
      simp only [Option.bind_eq_bind, Option.bind_eq_some_iff, chk_some, Option.some.injEq, Bool.and_eq_true] at h
      obtain ⟨_, ⟨hb, hv⟩, i, hi, rfl⟩ := h
      obtain ⟨b1, b2, b3⟩ := badN_ok hb
      refine ⟨rfl, (s_var (W := noW) (pe_var (X := X.suite a ((a, oe) :: pn)) (show X.N[i]? = some _ by rw [x.N]; exact ixOf_ok hi) (EC.vis_ok (X := X) x.scn hv) b1 b2)).mono fun σ H Q ⟨env, S, r, _, k⟩ => ⟨env, S, r, k⟩⟩
    · -- a constant
      split at h <;> first | (cases h; skip) | skip
      · exact ⟨rfl, (s_cst (W := noW) pe_non fun _ => .non).mono fun σ H Q ⟨env, S, r, _, k⟩ => ⟨env, S, r, k⟩⟩
      · exact ⟨rfl, (s_cst (W := noW) pe_bl fun _ => .bl _).mono fun σ H Q ⟨env, S, r, _, k⟩ => ⟨env, S, r, k⟩⟩
      · exact ⟨rfl, (s_cst (W := noW) pe_int fun _ => .int _).mono fun σ H Q ⟨env, S, r, _, k⟩ => ⟨env, S, r, k⟩⟩
      · exact ⟨rfl, (s_cst (W := noW) pe_str fun _ => .str _).mono fun σ H Q ⟨env, S, r, _, k⟩ => ⟨env, S, r, k⟩⟩
    · -- not
      simp only [Option.bind_eq_bind, Option.bind_eq_some_iff, Option.some.injEq] at h
      obtain ⟨q1, h1, rfl⟩ := h
      exact ⟨rfl, (s_no (ih _ _ h1).2 (mLQ q1)).mono fun σ H Q ⟨env, S, r, i, k⟩ => ⟨env, S, r, i, k⟩⟩
    · exact ⟨rfl, elQB_ok ih h⟩
    · simp only [Option.bind_eq_bind, Option.bind_eq_some_iff, Option.some.injEq] at h
      obtain ⟨o, ho, q1, h1, q2, h2, rfl⟩ := h
      exact ⟨rfl, (s_bin (q_bin x ho) (ih _ _ h1).2 (ih _ _ h2).2 (mLQ q1) (mLQ q2)).mono fun σ H Q ⟨env, S, r, i, k⟩ => ⟨env, S, r, i, wpQx_mono q1 (fun d z => ⟨i, wpQx_mono q2 (fun d z => wpBinI_to ho z) z⟩) k⟩⟩
    · -- isinstance
      rename_i f p1 y p2 t pos
      simp only [Option.bind_eq_bind, Option.bind_eq_some_iff, chk_some, Bool.and_eq_true] at h
      obtain ⟨_, ⟨hfn, hg, hbn, hb, hv⟩, ⟨e0, i0⟩, he0, _, hy, h⟩ := h
      have e1 := eq_of_beq hfn
      subst e1
      have e2 := eq_of_beq hy
      subst e2
      obtain ⟨b1, b2, b3⟩ := badN_ok hb
      have hi := hen _ _ he0
      have pv : PE (X.suite a ((a, oe) :: pn)) (.Name y p2) (tVar i0) := pe_var (X := X.suite a ((a, oe) :: pn)) (show X.N[i0]? = some _ by rw [x.N]; exact ixOf_ok hi) (EC.vis_ok (X := X) x.scn hv) b1 b2
      have gg : Gl (X.suite a ((a, oe) :: pn)) "isinstance" := EC.isG_ok (X := X) x.scn hg
      have mm : (X.suite a ((a, oe) :: pn)).mg "isinstance" = none := x.bn _ hbn
      have slot : ∀ {σ : St2} {H : Hp} {env : Env} {S : Store}, Rl C σ H env S → (∀ e i, en = some (e, i) → env[i]? = some (some (.ref a))) → σ[i0]? = some (some (.ref a)) := fun r iv => by
        obtain ⟨v, ev, rv⟩ := r.2.1 i0 _ (iv _ _ he0)
        cases rv
        exact ev
      have exc : ∀ {c : Option Nat} {cs : List (Option Nat)} {b : Bool}, anyI P c' (c :: cs) = some b → ExcC X.K (C.ca c') := fun {c cs b} h => by
        rw [x.K]
        unfold anyI at h
        cases e : P.isx c' c with
        | none => rw [e] at h; cases h
        | some r => exact (x.isx _ _ _ e).1
      split at h
      · rename_i t1 ts kk tpos
        simp only [Option.bind_eq_bind, Option.bind_eq_some_iff, chk_some, decide_eq_true_eq, Option.some.injEq] at h
        obtain ⟨_, hl, c, hc, cs, hcs, rfl⟩ := h
        obtain ⟨hp, hlen⟩ := elQcs_ok x (a := a) (oe := oe) (pn := pn) (show elQcs G (t1 :: ts) = some (c :: cs) by simp only [elQcs, hc, hcs]; rfl)
        refine ⟨rfl, ⟨fun pins s σ H Q I ⟨env, S, r, iv, b, hb, k⟩ => (pe_callB (X := X.suite a ((a, oe) :: pn)) (pos := pos) (p := p1) (call_isET (X := X) (pn := pn) (a := a) (exc hb) hz hf) gg mm (by decide +kernel) (pa_cons pv (pa_cons (pe_tup (x1 := kk) (pos := tpos) hp) pa_nil rfl) rfl) (by decide) (by decide) rfl rfl).run pins s σ H Q I ⟨_, slot r iv, ?_⟩⟩⟩
        refine ⟨by rw [List.length_map, ← hlen]; exact hl, fun t ht' => ?_⟩
        have x2 : Ext C.K H (L2.upd H t (.tup ((c :: cs).map (cvV C)))) := Ext.new ht'
        have ok2 := r.2.2.new0 (o := .tup ((c :: cs).map (cvV C))) ht'
        exact ⟨t, _, _, b, rfl, upd_same, clsP C (c :: cs), x.K ▸ anyI_ok x hb, k.ext x2 |>.at ok2 (.bl b)⟩
      · simp only [Option.bind_eq_bind, Option.bind_eq_some_iff, Option.some.injEq] at h
        obtain ⟨oc, hc, rfl⟩ := h
        obtain ⟨hp, hst⟩ := elQc_ok x (a := a) (oe := oe) (pn := pn) hc
        refine ⟨rfl, ⟨fun pins s σ H Q I ⟨env, S, r, iv, b, hb, k⟩ => (pe_callB (X := X.suite a ((a, oe) :: pn)) (pos := pos) (p := p1) (call_isE (X := X) (pn := pn) (a := a) (exc hb) hz hf) gg mm (by decide +kernel) (pa_cons pv (pa_cons hp pa_nil (star1 hst)) rfl) (by decide) (by decide) rfl (starAll (by rw [List.all_cons, hst]; rfl))).run pins s σ H Q I ⟨_, slot r iv, ?_⟩⟩⟩
        refine ⟨cvV C oc, cvU C oc, b, rfl, fun u hu => ?_, ?_, k.at r.2.2 (.bl b)⟩
        · cases oc with
          | none => exact hu
          | some c => exact hu
        · rw [show (X.suite a ((a, oe) :: pn)).K = C.K from x.K]
          have z := anyI_ok x hb
          unfold anyI at hb
          cases e : P.isx c' oc with
          | none => rw [e] at hb; cases hb
          | some r =>
            rw [e] at hb
            have q := (x.isx _ _ _ e).2
            cases r with
            | true => cases hb; exact q
            | false => cases hb; exact q
    · -- int
      rename_i f p1 ee pos
      simp only [Option.bind_eq_bind, Option.bind_eq_some_iff, chk_some, Bool.and_eq_true, Option.some.injEq] at h
      obtain ⟨_, ⟨hfn, hg, hbn⟩, q1, h1, rfl⟩ := h
      have e1 := eq_of_beq hfn
      subst e1
      obtain ⟨g1, g2⟩ := ih _ _ h1
      have gg : Gl (X.suite a ((a, oe) :: pn)) "int" := EC.isG_ok (X := X) x.scn hg
      have mm : (X.suite a ((a, oe) :: pn)).mg "int" = none := x.bn _ hbn
      refine ⟨rfl, (pe_callTy (X := X.suite a ((a, oe) :: pn)) (pos := pos) (p := p1) call_int1 gg mm (by decide +kernel) (pa_cons g2 pa_nil (star1 g1)) (by decide) (by decide) (star1 g1) rfl).mono fun σ H Q ⟨env, S, r, iv, k⟩ => ?_⟩
      have k : wpQx P c' q1 env fun x => ∃ c, x = .bl c ∧ QV C H Q (.int (if c = true then 1 else 0)) S := k
      refine LE.use (k := fun x S1 => ∃ c, x = .bl c ∧ QV C H Q (.int (if c = true then 1 else 0)) S1) (E := XW C noW σ H) (mLQ q1) r ⟨iv, k⟩ (fun _ _ z => z) fun d S' v H' x' r' rv ⟨c, e, z⟩ => ?_
      subst e
      cases rv
      exact .inr ⟨c, rfl, (QV.ext x' _ _ z).at r'.2.2 (.int _)⟩
    · cases h
theorem elQs_ok (hz : Zc (.ref (C.ca c')) none oe) (hf : ∃ vs, oe.data = .fields vs) (hen : ∀ e i, en = some (e, i) → ixOf e G.N = some i) {n : Nat} : ∀ {es : List Expr} {qs : List Qx}, elQs n G en es = some qs → PA (X.suite a ((a, oe) :: pn)) es (LA C noW (LQs a en (wpQxs P c' qs)))
  | [], qs, h => by
    cases h
    exact (s_nil (W := noW)).mono fun σ H Q ⟨env, S, r, _, k⟩ => ⟨env, S, r, k⟩
  | e :: es, qs, h => by
    simp only [elQs, Option.bind_eq_bind, Option.bind_eq_some_iff, Option.some.injEq] at h
    obtain ⟨q, hq, qs, hqs, rfl⟩ := h
    obtain ⟨g1, g2⟩ := elQ_ok x (pn := pn) hz hf hen n e q hq
    exact (s_cons g2 (elQs_ok hz hf hen hqs) (mLQ q) (mLQs qs) (star1 g1)).mono fun σ H Q ⟨env, S, r, i, k⟩ => ⟨env, S, r, i, wpQx_mono q (fun d z => ⟨i, z⟩) k⟩
/-- a suite's statements: the exception's slot stays -/
def LM (a : Addr) (en : Option (Str × Nat)) (w : Env → Store → (Env → Store → Prop) → Prop) : WS := fun env S K => (∀ e i, en = some (e, i) → env[i]? = some (some (.ref a))) ∧ w env S fun e2 S2 => (∀ e i, en = some (e, i) → e2[i]? = some (some (.ref a))) → K.nx e2 S2
omit x in
theorem LM.mono {w : Env → Store → (Env → Store → Prop) → Prop} (m : ∀ {env S} {K K' : Env → Store → Prop}, (∀ e s, K e s → K' e s) → w env S K → w env S K') : MonoS (LM a en w) := fun _ _ _ _ hk h => ⟨h.1, m (fun _ _ z i => hk.nx _ _ (z i)) h.2⟩
omit x in
theorem enSet {i : Nat} {d : D} {env : Env} (h : enNot en i = true) (iv : ∀ e i, en = some (e, i) → env[i]? = some (some (.ref a))) : ∀ e j, en = some (e, j) → (env.set i (some d))[j]? = some (some (.ref a)) := fun e j z => by
  subst z
  have h : (j != i) = true := h
  have hne : i ≠ j := fun q => by rw [q] at h; exact absurd h (by simp)
  rw [List.getElem?_set_ne hne]
  exact iv e j rfl
theorem elQm_ok (hz : Zc (.ref (C.ca c')) none oe) (hf : ∃ vs, oe.data = .fields vs) (hen : ∀ e i, en = some (e, i) → ixOf e G.N = some i) {n : Nat} {s : Stmt} {q : Qm} (h : elQm n G en s = some q) : PS (X.suite a ((a, oe) :: pn)) s (LS C noW (LM a en (wpQm P c' q))) := by
  have nm : ∀ {y : Str} {p : Pos} {i : Nat}, G.sto y = true → ixOf y G.N = some i → PG (X.suite a ((a, oe) :: pn)) (.Name y p) (LG C (.nm i)) := fun {y p i} h1 hi => by
    obtain ⟨h2, h3⟩ := EC.sto_ok (X := X) x.scn x.fnc h1
    exact g_name (pg_name (X := X.suite a ((a, oe) :: pn)) x.nd (show X.N[i]? = some y by rw [x.N]; exact ixOf_ok hi) h2 h3)
  unfold elQm at h
  split at h
  · simp only [Option.bind_eq_bind, Option.bind_eq_some_iff, chk_some, Option.some.injEq] at h
    obtain ⟨_, h1, i, hi, _, hn, qs, hq, rfl⟩ := h
    refine (t_asg (s_lst (elQs_ok x hz hf hen hq) (mLQs qs)) (fun env S Q Q' E E' hq _ h => ⟨h.1, wpQxs_mono qs (fun ds z => ⟨z.1, fun p hp => hq _ _ (z.2 p hp)⟩) h.2⟩) (nm h1 hi) rfl rfl rfl).mono fun D σ H ⟨env, S, r, iv, k⟩ => ⟨env, S, r, iv, ?_⟩
    exact wpQxs_mono qs (fun ds z => ⟨z.1, fun p hp => ⟨_, rfl, z.2 p hp (enSet hn iv)⟩⟩) k
  · simp only [Option.bind_eq_bind, Option.bind_eq_some_iff, chk_some, Option.some.injEq, Bool.and_eq_true] at h
    obtain ⟨_, ⟨h1, h0⟩, i, hi, _, hn, q1, hq, rfl⟩ := h
    obtain ⟨g1, g2⟩ := elQ_ok x (pn := pn) hz hf hen n _ q1 hq
    refine (t_asg g2 (mLQ q1) (nm h1 hi) (sole_no0 h0) (swappedStores_no0 h0) rfl).mono fun D σ H ⟨env, S, r, iv, k⟩ => ⟨env, S, r, iv, ?_⟩
    exact wpQx_mono q1 (fun d z => ⟨_, rfl, z (enSet hn iv)⟩) k
  · rename_i y p1 m apos e1 pos p2
    simp only [Option.bind_eq_bind, Option.bind_eq_some_iff, chk_some, Option.some.injEq, Bool.and_eq_true] at h
    obtain ⟨_, ⟨hm, hb, hv, hl⟩, i, hi, q1, hq, rfl⟩ := h
    have e2 := eq_of_beq hm
    subst e2
    obtain ⟨b1, b2, b3⟩ := badN_ok hb
    obtain ⟨g1, g2⟩ := elQ_ok x (pn := pn) hz hf hen n _ q1 hq
    have pv : PE (X.suite a ((a, oe) :: pn)) (.Name y p1) (tVar i) := pe_var (X := X.suite a ((a, oe) :: pn)) (show X.N[i]? = some _ by rw [x.N]; exact ixOf_ok hi) (EC.vis_ok (X := X) x.scn hv) b1 b2
    have hs : ([e1] : List Expr).all notStar = true := by rw [List.all_cons, g1]; rfl
    have gv : PE (X.suite a ((a, oe) :: pn)) (.Name y p1) (LE C noW fun env S Q _ => ∃ d, env[i]? = some (some d) ∧ Q d S) := s_var pv
    have ga : PA (X.suite a ((a, oe) :: pn)) [e1] (LA C noW fun env S Q E => LQ a en (wpQx P c' q1) env S (fun d S1 => Q [d] S1) E) := s_cons g2 (s_nil (W := noW)) (mLQ q1) (fun _ _ _ _ _ _ hq _ h => hq _ _ h) (star1 g1)
    have gc := s_bmt (X := X.suite a ((a, oe) :: pn)) (m := .append) (apos := apos) (pos := pos) x.K x.hu gv (fun _ _ _ _ _ _ hq _ ⟨d, e, z⟩ => ⟨d, e, hq _ _ z⟩) ga (fun _ _ _ _ _ _ hq _ h => mLQ q1 _ _ _ _ _ _ (fun d S z => hq _ _ z) (fun _ _ z => z) h) (fun z => by cases z) rfl hs (show (1 : Nat) < 30 by decide) hl
    refine (t_ex gc (fun env S Q Q' E E' hq hE ⟨d, e, k, e2, e3, z⟩ => ⟨d, e, k, e2, e3, mLQ q1 _ _ _ _ _ _ (fun d S z => wpBmt_mono hq z) (fun _ _ z => z) z⟩) rfl).mono fun D σ H ⟨env, S, r, iv, p, e1, xs0, e0, k⟩ => ⟨env, S, r, _, e1, .lst, kdM_lst' e0, rfl, iv, ?_⟩
    exact wpQx_mono q1 (fun d ⟨xs, e2, l, z⟩ => ⟨xs, e2, l, z iv⟩) k
  · cases h
theorem elQms_ok (hz : Zc (.ref (C.ca c')) none oe) (hf : ∃ vs, oe.data = .fields vs) (hen : ∀ e i, en = some (e, i) → ixOf e G.N = some i) {n : Nat} : ∀ {ss : List Stmt} {qs : List Qm}, elQms n G en ss = some qs → PSs (X.suite a ((a, oe) :: pn)) ss (LS C noW (LM a en (wpQ P c' qs)))
  | [], qs, h => by
    cases h
    exact (t_nil (W := noW)).mono fun D σ H ⟨env, S, r, iv, k⟩ => ⟨env, S, r, k iv⟩
  | s :: ss, qs, h => by
    simp only [elQms, Option.bind_eq_bind, Option.bind_eq_some_iff, Option.some.injEq] at h
    obtain ⟨q, hq, qs, hqs, rfl⟩ := h
    exact (t_cons (elQm_ok x (pn := pn) hz hf hen hq) (elQms_ok hz hf hen hqs) (LM.mono fun hk h => wpQm_mono q hk h) (LM.mono fun hk h => wpQ_mono hk h)).mono fun D σ H ⟨env, S, r, iv, k⟩ => ⟨env, S, r, iv, wpQm_mono q (fun e s z i => ⟨i, z⟩) k⟩
theorem XOk.tr {W' : WX} {pn' : List (Addr × Obj)} {xe : Value → Shared → Prop} (tk : Takes (X.tr pn' xe) W') (po : PassesOwn (model X.prog X.w) X.A X.env xe) : XOk G C P R RM W' (X.tr pn' xe) where
  K := x.K
  N := x.N
  nd := x.nd
  scn := x.scn
  sck := x.sck
  fnc := x.fnc
  calm := x.calm
  hu := x.hu
  tk := tk
  po := po
  F := x.F
  gl := fun y g h => by
    have q := x.gl y g h
    cases g with
    | cst d => exact q
    | fn f => obtain ⟨b, h1, h2, h3⟩ := q; exact ⟨b, h1, h2, fun Y W' s => h3 Y W' ⟨s.prog, s.w, s.K, s.mg, s.base, s.A⟩⟩
    | cls c => obtain ⟨b, h1, h2, h3⟩ := q; exact ⟨b, h1, h2, fun Y W' s => h3 Y W' ⟨s.prog, s.w, s.K, s.mg, s.base, s.A⟩⟩
    | exc c => exact q
  bn := x.bn
  fld := x.fld
  mnm := x.mnm
  mth := fun m Y W' s => x.mth m Y W' ⟨s.prog, s.w, s.K, s.mg, s.base, s.A⟩
  sub := x.sub
  isx := x.isx
/-- try: body; except y: suite -/
theorem try_only {body suite : List Stmt} {b0 : Stmt} {y : Str} {np pos pos' : Pos} {b : Sms} {c n : Nat} {qs : List Qm} (hs : X.stack = X.env :: X.outer) (hf : X.env.frame = some X.env.locals) (hc : Names X y (.ref (C.ca c)))
    (hb : ∀ W' X', XOk G C P R RM W' X' → X'.stack = X'.env :: X'.outer → X'.env.frame = some X'.env.locals → PSs X' body (LS C W' (wpSs P R RM b))) (hm : MonoS (wpSs P R RM b)) (hq : elQms n G none (b0 :: suite) = some qs) :
    PS X (.Try body [.ExceptHandler (some (.Name y np)) none (b0 :: suite) pos'] [] [] pos) (LS C W (wpS P R RM (.try_ b c none qs))) := by
  refine (ps_try_only hs hf hc x.tk (tb := fun W' => LS C W' (wpSs P R RM b)) (ts := fun a cls d D σ H => ∃ c' env S, cls = .ref (C.ca c') ∧ d = none ∧ Rl C σ H env S ∧ wpQ P c' qs env S fun e2 S2 => ∀ σ' H', Ext C.K H H' → Rl C σ' H' e2 S2 → D.nx σ' H') (fun W' pn xe tk po => hb W' _ (x.tr tk po) hs hf) fun a oe cls d pn hz hd => ⟨fun pins s σ H D I ⟨c', env, S, e1, e2, r, k⟩ => ?_⟩).mono fun D σ H ⟨env, S, r, k⟩ => ⟨env, S, r, hm _ _ _ _ ?_ k⟩
  · subst e1 e2
    exact (elQms_ok x (en := none) (pn := pn) hz hd (fun _ _ z => nomatch z) hq).run pins s σ H D I ⟨env, S, r, (fun _ _ z => nomatch z), wpQ_mono (fun e s z _ => z) k⟩
  · refine ⟨fun _ _ z => z, fun _ _ z => z, fun _ _ z => z, fun _ _ z => z, fun env' c' S' z σ' H' x' r' => ?_⟩
    obtain ⟨b', e, z⟩ := z
    refine ⟨b', x.K ▸ x.sub _ _ _ e, fun h a _ => ?_, fun h => ?_⟩
    · subst h
      exact ⟨c', env', S', rfl, rfl, r', wpQ_mono (fun e2 S2 y σ2 H2 x2 r2 => y σ2 H2 (x'.trans x2) r2) (z a)⟩
    · subst h
      exact z σ' H' x' r'
/-- try: body; except y as e: suite -/
theorem try_as {body suite : List Stmt} {b0 : Stmt} {y nm : Str} {np pos pos' : Pos} {b : Sms} {c n i : Nat} {qs : List Qm} (hs : X.stack = X.env :: X.outer) (hf : X.env.frame = some X.env.locals) (hl : G.isL nm = true) (hi : ixOf nm G.N = some i) (hc : Names X y (.ref (C.ca c)))
    (hb : ∀ W' X', XOk G C P R RM W' X' → X'.stack = X'.env :: X'.outer → X'.env.frame = some X'.env.locals → PSs X' body (LS C W' (wpSs P R RM b))) (hm : MonoS (wpSs P R RM b)) (hq : elQms n G (some (nm, i)) (b0 :: suite) = some qs) :
    PS X (.Try body [.ExceptHandler (some (.Name y np)) (some nm) (b0 :: suite) pos'] [] [] pos) (LS C W (wpS P R RM (.try_ b c (some i) qs))) := by
  have hln : X.env.kindOf nm = some .local := by
    show X.env.scope.names.lookup nm = _
    rw [x.scn]
    unfold EC.isL at hl
    split at hl
    · assumption
    · cases hl
  refine (ps_try_as hs hf x.nd (by rw [x.N]; exact ixOf_ok hi) hln hc x.tk (tb := fun W' => LS C W' (wpSs P R RM b)) (ts := fun a cls d D σ H => ∃ (c' : Nat) (env : Env) (S : Store), cls = .ref (C.ca c') ∧ d = none ∧ Rl C σ H (env.set i (some (.ref a))) S ∧ wpQ P c' qs (env.set i (some (.ref a))) S fun e2 S2 => ∀ σ' H', Ext C.K H H' → Rl C σ' H' e2 S2 → D.nx σ' H') (fun W' pn xe tk po => hb W' _ (x.tr tk po) hs hf) fun a oe cls d pn hz hd => ⟨fun pins s σ H D I ⟨c', env, S, e1, e2, r, k⟩ => ?_⟩).mono fun D σ H ⟨env, S, r, k⟩ => ⟨env, S, r, hm _ _ _ _ ?_ k⟩
  · subst e1 e2
    have hlt : i < env.length := by
      have l1 := r.1
      rw [List.length_set] at l1
      have l2 : σ.length = X.N.length := I.len
      have l3 : X.N[i]? = some nm := by rw [x.N]; exact ixOf_ok hi
      have l4 := (List.getElem?_eq_some_iff.mp l3).1
      omega
    have e3 : (env.set i (some (.ref a)))[i]? = some (some (.ref a)) := by rw [List.getElem?_set_self hlt]
    exact (elQms_ok x (en := some (nm, i)) (pn := pn) hz hd (fun _ _ z => by cases z; exact hi) hq).run pins s σ H D I ⟨_, S, r, (fun _ _ z => by cases z; exact e3), wpQ_mono (fun e s z _ => z) k⟩
  · refine ⟨fun _ _ z => z, fun _ _ z => z, fun _ _ z => z, fun _ _ z => z, fun env' c' S' z σ' H' x' r' => ?_⟩
    obtain ⟨b', e, z⟩ := z
    refine ⟨b', x.K ▸ x.sub _ _ _ e, fun h a _ => ?_, fun h => ?_⟩
    · subst h
      exact ⟨c', env', S', rfl, rfl, r'.set i (.ref a), wpQ_mono (fun e2 S2 y σ2 H2 x2 r2 => y _ H2 (x'.trans x2) (r2.unset i)) (z a)⟩
    · subst h
      exact z σ' H' x' r'
end
end SW
/-! SW, part N: statements from the text. -/
namespace SW
open PySem PySem.Spec PyProof.Rows L2
/-- no comprehension: its value is stored the plain way -/
def noComp : Expr → Bool
  | .ListComp _ _ _ _ => false
  | .SetComp _ _ _ _ => false
  | .DictComp _ _ _ _ _ => false
  | _ => true
def noTuple : Expr → Bool
  | .Tuple _ _ _ => false
  | _ => true
def augOf : Operator → Option Bop
  | .Add => some .add
  | .Sub => some .sub
  | _ => none
/-- y = [..], where the new list goes to y behind the block's end -/
def swaps (G : EC) (y : Str) (py : Pos) : Expr → Bool
  | .ListComp _ _ scope pos => G.isL y && (py.line == pos.line && !(scope.names.any fun (n, k) => n == y && (k == .local || k == .cell)))
  | _ => false
def elSs (f : Stmt → Option Sm) : List Stmt → Option Sms
  | [] => some .nil
  | s :: ss => do
    let a ← f s
    let b ← elSs f ss
    some (.cons a b)
def elN (n : Nat) (G : EC) (y : Str) (e : Expr) : Option Sm := do
  chk (G.sto y)
  let i ← ixOf y G.N
  let x ← elE n G e
  some (.asg (.nm i) x)
def elY (r : Stmt → Option Sm) (n : Nat) (G : EC) : Stmt → Option Sm
  | .Return (some e) _ => do
    let x ← elE n G e
    some (.ret x)
  | .Return none _ => some .retN
  | .Expr (.Constant (.str _) _ _) _ => some .pass
  | .Expr e _ => do
    chk (noComp e)
    let x ← elE n G e
    some (.ex x)
  | .Assign [.Name y _] e _ => elN n G y e
  | .Assign [.Tuple ts _ _] e _ => do
    chk (noTuple e && noComp e)
    let t ← elTs n G ts
    let x ← elE n G e
    some (.asg (.tup t) x)
  | .Assign [.Attribute o f _] e _ => do
    chk (noComp e)
    let a ← elE n G o
    let i ← G.flds.lookup f
    let x ← elE n G e
    some (.asF a i x)
  | .Assign [.Subscript o i _] e _ => do
    chk (noSlice i && noComp e)
    let a ← elE n G o
    let b ← elE n G i
    let x ← elE n G e
    some (.asS a b x)
  | .AugAssign (.Name y _) op e _ => do
    chk (G.sto y)
    let i ← ixOf y G.N
    let o ← augOf op
    let x ← elE n G e
    some (.aug i o x)
  | .AugAssign (.Attribute a f _) op e _ => do
    let y ← elE n G a
    let i ← G.flds.lookup f
    let o ← augOf op
    let x ← elE n G e
    some (.auF y i o x)
  | .AugAssign (.Subscript a i _) op e _ => do
    chk (noSlice i)
    let x ← elE n G a
    let y ← elE n G i
    let o ← augOf op
    let z ← elE n G e
    some (.auS x y o z)
  | .If t a b _ => do
    chk (tst t)
    let c ← elE n G t
    let x ← elSs r a
    let y ← elSs r b
    some (.ite c x y)
  | .For tg iter body [] _ => do
    let t ← elT n G tg
    let b ← elSs r body
    match dwalk G tg iter with
    | some (items, a) => do
      let e ← elE n G a
      some (.forD t items e b)
    | none => do
      let it ← elI (elE n G) G tg iter
      some (.for_ t it b)
  | .While t body [] _ => do
    chk (tst t)
    let c ← elE n G t
    let b ← elSs r body
    some (.while_ c b)
  | .Pass _ => some .pass
  | .Continue _ => some .cont
  | .Break _ => some .brk
  | .Raise (some (.Call (.Name x _) [.Constant (.str _) _ _] [] _)) none _ => do
    chk (G.isG x && !badN x)
    match G.gl.lookup x with
    | some (.exc c) => some (.raise c)
    | _ => none
  | .Try body [.ExceptHandler (some (.Name x _)) none (b0 :: suite) _] [] [] _ => do
    chk (G.isG x && !badN x)
    let b ← elSs r body
    let q ← elQms n G none (b0 :: suite)
    match G.gl.lookup x with
    | some (.exc c) => some (.try_ b c none q)
    | _ => none
  | .Try body [.ExceptHandler (some (.Name x _)) (some y) (b0 :: suite) _] [] [] _ => do
    chk (G.isG x && (!badN x && G.isL y))
    let i ← ixOf y G.N
    let b ← elSs r body
    let q ← elQms n G (some (y, i)) (b0 :: suite)
    match G.gl.lookup x with
    | some (.exc c) => some (.try_ b c (some i) q)
    | _ => none
  | _ => none
def elS : Nat → EC → Stmt → Option Sm
  | 0, _, _ => none
  | n + 1, G, s => elY (elS n G) (n + 1) G s
theorem swapsWith_no {e : Expr} {t : Option Expr} {l : Nat} {env : PySem.Env} (h : noComp e = true) : swapsWith e t l env = pure false := by
  cases e <;> first | rfl | cases h
theorem sole_no {tg e : Expr} {l : Nat} {env : PySem.Env} (h : noComp e = true) : swapsWithSole [tg] e l env = pure false := swapsWith_no (t := some tg) h
theorem swappedStores_no {tg e : Expr} {env : PySem.Env} (h : noTuple e = true) : swappedStores [tg] e env = pure none := by
  cases e <;> first | (cases tg <;> rfl) | cases h
theorem subStores_no {o i e : Expr} {p : Pos} {env : PySem.Env} : swappedStores [.Subscript o i p] e env = pure none := by
  cases e <;> rfl
theorem assignSub {o i : Expr} {p : Pos} {env : PySem.Env} (h : noSlice i = true) : ∀ v, assign (.Subscript o i p) env v = (do
      let ov ← holding [v] (eval o env)
      let iv ← holding [v, ov] (eval i env)
      standAt p
      holding [v, ov, iv] (setItem ov iv v)
      release [v, ov, iv] []) := by
  intro v
  cases i <;> first | rfl | cases h
theorem augSub {i : Expr} (h : noSlice i = true) : ∀ ov iv new, augStore i ov iv new = (do holding [new, ov, iv] (setItem ov iv new); release [new, ov, iv] []; pure .next) := by
  intro ov iv new
  cases i <;> first | rfl | cases h
theorem swapsWith_lc {elt : Expr} {gs : List Comprehension} {scope : Scope} {pos py : Pos} {y : Str} {l : Nat} {env : PySem.Env} (hk : env.scope.kind = .function)
    (h : (env.scope.names.lookup y == some .local && (py.line == pos.line && !(scope.names.any fun (n, k) => n == y && (k == .local || k == .cell)))) = false) :
    swapsWith (.ListComp elt gs scope pos) (some (.Name y py)) l env = pure false := by
  have hb : env.blockKind = .function := by unfold Env.blockKind; rw [hk]; rfl
  unfold swapsWith
  simp only [hb]
  have e : (ScopeKind.function == ScopeKind.function && env.kindOf y == some NameKind.local && py.line == (Expr.ListComp elt gs scope pos).pos.line && !(scope.names.any fun (n, k) => n == y && (k == .local || k == .cell))) = false := by
    rw [← Bool.and_assoc] at h
    exact h
  rw [e]
section
variable {P : Prg} {R RM : Rec} (mR : MonoR R) (mM : MonoR RM)
include mR mM
theorem mS (s : Sm) : MonoS (wpS P R RM s) := fun _ _ _ _ hk h => wpS_mono mR mM s hk h
theorem mSs (s : Sms) : MonoS (wpSs P R RM s) := fun _ _ _ _ hk h => wpSs_mono mR mM s hk h
theorem elSs_ok {X : Cx} {C : Cn} {W : WX} {f : Stmt → Option Sm} (hf : ∀ s ir, f s = some ir → PS X s (LS C W (wpS P R RM ir))) : ∀ {ss : List Stmt} {irs : Sms}, elSs f ss = some irs → PSs X ss (LS C W (wpSs P R RM irs))
  | [], irs, h => by
    cases h
    exact t_nil
  | s :: ss, irs, h => by
    simp only [elSs, Option.bind_eq_bind, Option.bind_eq_some_iff, Option.some.injEq] at h
    obtain ⟨a, ha, b, hb, rfl⟩ := h
    exact t_cons (w := wpS P R RM a) (ws := wpSs P R RM b) (hf s a ha) (elSs_ok hf hb) (mS mR mM a) (mSs mR mM b)
omit mR mM in
theorem aug_rule {X : Cx} {C : Cn} {op : Operator} {o : Bop} (h : augOf op = some o) : InOp X op (RAug C o) := by
  cases op <;> cases h
  · exact aug_add
  · exact aug_sub
theorem elN_ok {n : Nat} {G : EC} {C : Cn} {W : WX} {X : Cx} (x : XOk G C P R RM W X) {y : Str} {py pos : Pos} {e : Expr} {ir : Sm} (h : elN n G y e = some ir) : PS X (.Assign [.Name y py] e pos) (LS C W (wpS P R RM ir)) := by
  simp only [elN, Option.bind_eq_bind, Option.bind_eq_some_iff, chk_some, Option.some.injEq] at h
  obtain ⟨_, h1, i, hi, a, ha, rfl⟩ := h
  obtain ⟨h2, h3⟩ := EC.sto_ok x.scn x.fnc h1
  have hN : X.N[i]? = some y := by rw [x.N]; exact ixOf_ok hi
  have g : PG X (.Name y py) (LG C (.nm i)) := g_name (pg_name x.nd hN h2 h3)
  obtain ⟨_, g2, _⟩ := elE_ok mR mM n x e a ha
  have plain : swapsWith e (some (.Name y py)) pos.line X.env = pure false → PS X (.Assign [.Name y py] e pos) (LS C W (wpS P R RM (.asg (.nm i) a))) := fun hs =>
    t_asg g2 (mE mR mM a) g hs (by cases e <;> rfl) rfl
  cases hc : noComp e with
  | true => exact plain (swapsWith_no hc)
  | false =>
    cases e with
    | ListComp elt gs scope cpos =>
      cases hsw : (X.env.scope.names.lookup y == some .local && (py.line == cpos.line && !(scope.names.any fun (n, k) => n == y && (k == .local || k == .cell)))) with
      | false => exact plain (swapsWith_lc x.sck hsw)
      | true =>
        rw [Bool.and_eq_true, Bool.and_eq_true, Bool.not_eq_true'] at hsw
        have hyl : X.env.scope.names.lookup y = some .local := eq_of_beq hsw.1
        cases n with
        | zero => simp only [elE] at ha; cases ha
        | succ n =>
          replace ha : elX (elE n) n G (.ListComp elt gs scope cpos) = some a := ha
          unfold elX at ha
          split at ha <;> first | contradiction | skip
          · rename_i e1
            injection e1 with q1 q2 q3 q4
            subst q1 q2 q3 q4
            obtain ⟨it, own, t, c, v, rfl, i1, i2, ok, g1, g2, g3, hin⟩ := comp_parts mR mM x (fun e ir h => elE_ok mR mM n x e ir h) (fun G' W' X' x' e ir h => elE_ok mR mM n x' e ir h) ha
            exact t_asgL (we := wpE P R RM (.comp v t it c (own.map fun x => x.2))) (ps_setLc x.calm x.nd hN hyl (sw_true x.sck hyl hsw.2.1 hsw.2.2) i1 ok g1 g2 g3 i2) (s_comp x.calm x.nd i1 (mI mR mM it) ok g1 g2 g3 (mE mR mM c) (mE mR mM v) hin) (mE mR mM _)
    | SetComp elt gs scope cpos =>
      cases n with
      | zero => simp only [elE] at ha; cases ha
      | succ n => cases ha
    | DictComp k v gs scope cpos =>
      cases n with
      | zero => simp only [elE] at ha; cases ha
      | succ n => cases ha
    | _ => cases hc
theorem elS_ok : ∀ (n : Nat) {G : EC} {C : Cn} {W : WX} {X : Cx} (x : XOk G C P R RM W X) (_ : X.stack = X.env :: X.outer) (_ : X.env.frame = some X.env.locals) (s : Stmt) (ir : Sm), elS n G s = some ir → PS X s (LS C W (wpS P R RM ir)) := by
  intro n
  induction n with
  | zero => intro G C W X x _ _ s ir h; simp only [elS] at h; cases h
  | succ n ih =>
    intro G C W X x hs1 hs2 s ir h
    have hf : ∀ s ir, elS n G s = some ir → PS X s (LS C W (wpS P R RM ir)) := fun s ir h => ih x hs1 hs2 s ir h
    replace h : elY (elS n G) (n + 1) G s = some ir := h
    have he : ∀ e a, elE (n + 1) G e = some a → PE X e (LE C W (wpE P R RM a)) := fun e a h => (elE_ok mR mM _ x e a h).2.1
    have ht : ∀ e a, elE (n + 1) G e = some a → tst e = true → PT X e (LT C W (wpE P R RM a)) := fun e a h => (elE_ok mR mM _ x e a h).2.2
    unfold elY at h
    split at h
    · simp only [Option.bind_eq_bind, Option.bind_eq_some_iff, Option.some.injEq] at h
      obtain ⟨a, ha, rfl⟩ := h
      exact t_ret (he _ _ ha) (mE mR mM a)
    · cases h
      exact t_retN
    · cases h
      exact ps_doc.mono fun D σ H ⟨env, S, r, q⟩ => q σ H Ext.refl r
    · simp only [Option.bind_eq_bind, Option.bind_eq_some_iff, chk_some, Option.some.injEq] at h
      obtain ⟨_, h0, a, ha, rfl⟩ := h
      exact t_ex (he _ _ ha) (mE mR mM a) (swapsWith_no h0)
    · exact elN_ok mR mM x h
    · simp only [Option.bind_eq_bind, Option.bind_eq_some_iff, chk_some, Option.some.injEq, Bool.and_eq_true] at h
      obtain ⟨_, ⟨h0, h1⟩, t, ht', a, ha, rfl⟩ := h
      obtain ⟨l1, l2⟩ := elTs_len ht'
      exact t_asg (he _ _ ha) (mE mR mM a) (g_tup x.K x.calm (elTs_ok x ht') _ (l2 _).1 (l2 _).2 fun ds env env2 q => (asgTs_n q).trans l1) (sole_no h1) (swappedStores_no h0) rfl
    · simp only [Option.bind_eq_bind, Option.bind_eq_some_iff, chk_some, Option.some.injEq] at h
      obtain ⟨_, h0, a, ha, i, hi, b, hb, rfl⟩ := h
      obtain ⟨f1, f2⟩ := x.fld _ _ hi
      exact t_asF x.K x.F f1 f2 (he _ _ ha) (he _ _ hb) (mE mR mM a) (mE mR mM b) (swapsWith_no h0)
    · simp only [Option.bind_eq_bind, Option.bind_eq_some_iff, chk_some, Option.some.injEq, Bool.and_eq_true] at h
      obtain ⟨_, ⟨h0, h1⟩, a, ha, b, hb, c, hc, rfl⟩ := h
      exact t_asS x.hu (he _ _ ha) (he _ _ hb) (he _ _ hc) (mE mR mM a) (mE mR mM b) (mE mR mM c) (sole_no h1) subStores_no (assignSub h0)
    · simp only [Option.bind_eq_bind, Option.bind_eq_some_iff, chk_some, Option.some.injEq] at h
      obtain ⟨_, h1, i, hi, o, ho, a, ha, rfl⟩ := h
      obtain ⟨h2, h3⟩ := EC.sto_ok x.scn x.fnc h1
      exact t_aug (aug_rule ho) x.nd (by rw [x.N]; exact ixOf_ok hi) h2 h3 (he _ _ ha) (mE mR mM a)
    · simp only [Option.bind_eq_bind, Option.bind_eq_some_iff, Option.some.injEq] at h
      obtain ⟨a, ha, i, hi, o, ho, b, hb, rfl⟩ := h
      obtain ⟨f1, f2⟩ := x.fld _ _ hi
      exact t_auF x.K x.F f1 f2 (aug_rule ho) (he _ _ ha) (he _ _ hb) (mE mR mM a) (mE mR mM b)
    · simp only [Option.bind_eq_bind, Option.bind_eq_some_iff, chk_some, Option.some.injEq] at h
      obtain ⟨_, h0, a, ha, i, hi, o, ho, b, hb, rfl⟩ := h
      exact t_auS x.hu (aug_rule ho) (he _ _ ha) (he _ _ hi) (he _ _ hb) (mE mR mM a) (mE mR mM i) (mE mR mM b) (augSub h0)
    · simp only [Option.bind_eq_bind, Option.bind_eq_some_iff, chk_some, Option.some.injEq] at h
      obtain ⟨_, h0, c, hc, a, ha, b, hb, rfl⟩ := h
      exact t_ite (ht _ _ hc h0) (elSs_ok mR mM hf ha) (elSs_ok mR mM hf hb) (mE mR mM c) (mSs mR mM a) (mSs mR mM b)
    · simp only [Option.bind_eq_bind, Option.bind_eq_some_iff, Option.some.injEq] at h
      obtain ⟨t, ht', b, hb, h⟩ := h
      split at h
      · rename_i items a hd
        simp only [Option.bind_eq_bind, Option.bind_eq_some_iff, Option.some.injEq] at h
        obtain ⟨e, he', rfl⟩ := h
        obtain ⟨i1, i2⟩ := dwalk_ok hd (he _ _ he')
        exact forD_core (mE mR mM e) (mSs mR mM b) (ps_for x.po x.calm i1 (elT_ok x ht') (elSs_ok mR mM hf hb) i2)
      · simp only [Option.bind_eq_bind, Option.bind_eq_some_iff, Option.some.injEq] at h
        obtain ⟨it, hit, rfl⟩ := h
        obtain ⟨i1, i2⟩ := elI_ok mR mM x (fun e ir h => elE_ok mR mM _ x e ir h) hit
        exact t_for x.po x.calm i1 (mI mR mM it) (elT_ok x ht') (elSs_ok mR mM hf hb) (mSs mR mM b) i2
    · simp only [Option.bind_eq_bind, Option.bind_eq_some_iff, chk_some, Option.some.injEq] at h
      obtain ⟨_, h0, c, hc, b, hb, rfl⟩ := h
      exact t_while x.po (ht _ _ hc h0) (elSs_ok mR mM hf hb) (mE mR mM c) (mSs mR mM b)
    · cases h
      exact t_pass
    · cases h
      exact t_cont
    · cases h
      exact t_brk
    · simp only [Option.bind_eq_bind, Option.bind_eq_some_iff, chk_some, Bool.and_eq_true] at h
      obtain ⟨_, ⟨h0, hb⟩, h⟩ := h
      obtain ⟨b1, _, _⟩ := badN_ok hb
      split at h
      · cases h
        rename_i hl
        obtain ⟨m1, m2, m3, m4, m5⟩ := x.gl _ _ hl
        refine (ps_raise x.calm x.tk (pmk_own PySem.F.excBase_ValueError m2 m1 m3 (raises_own m4 m5) (EC.isG_ok x.scn h0) b1)).mono fun D σ H ⟨env, S, r, q⟩ => ?_
        exact q σ H Ext.refl r
      · cases h
    · simp only [Option.bind_eq_bind, Option.bind_eq_some_iff, chk_some, Bool.and_eq_true] at h
      obtain ⟨_, ⟨h0, hb⟩, b, hbd, q, hq, h⟩ := h
      obtain ⟨b1, _, _⟩ := badN_ok hb
      split at h
      · cases h
        rename_i hl
        obtain ⟨m1, _⟩ := x.gl _ _ hl
        exact try_only x hs1 hs2 ⟨EC.isG_ok x.scn h0, b1, .inl m1⟩ (fun W' X' x' s1 s2 => elSs_ok mR mM (fun s ir h => ih x' s1 s2 s ir h) hbd) (mSs mR mM b) hq
      · cases h
    · simp only [Option.bind_eq_bind, Option.bind_eq_some_iff, chk_some, Bool.and_eq_true] at h
      obtain ⟨_, ⟨h0, hb, hlo⟩, i, hi, b, hbd, q, hq, h⟩ := h
      obtain ⟨b1, _, _⟩ := badN_ok hb
      split at h
      · cases h
        rename_i hl
        obtain ⟨m1, _⟩ := x.gl _ _ hl
        exact try_as x hs1 hs2 hlo hi ⟨EC.isG_ok x.scn h0, b1, .inl m1⟩ (fun W' X' x' s1 s2 => elSs_ok mR mM (fun s ir h => ih x' s1 s2 s ir h) hbd) (mSs mR mM b) hq
      · cases h
    · cases h
end
end SW
/-! SW, part O: defs, their runs to a depth, the link with the program's text. -/
namespace SW
open PySem PySem.Spec PyProof.Rows L2
structure FD where
  np : Nat
  ns : Nat
  body : Sms
def startE (n : Nat) (ds : List D) : Env := ds.map some ++ List.replicate (n - ds.length) none
def noK : Env → Store → Prop := fun _ _ => False
def endK (Q : PQ) (E : PX) : Kt := ⟨fun _ S => Q .non S, Q, noK, noK, fun _ => E⟩
def stepR (P : Prg) (T : Nat → Option FD) (R RM : Rec) : Rec := fun f ds S Q E => ∃ d, T f = some d ∧ ds.length = d.np ∧ wpSs P R RM d.body (startE d.ns ds) S (endK Q E)
def botR : Rec := fun _ _ _ _ _ => False
/-- what the defs do, to a depth of calls; what makers do -/
def runs (P : Prg) (T : Nat → Option FD) : Nat → Rec × Rec
  | 0 => (botR, botR)
  | k + 1 => (stepR P T (runs P T k).1 (runs P T k).2, (runs P T k).1)
abbrev run (P : Prg) (T : Nat → Option FD) (k : Nat) : Rec := (runs P T k).1
abbrev runM (P : Prg) (T : Nat → Option FD) (k : Nat) : Rec := (runs P T k).2
theorem botR_mono : MonoR botR := fun _ _ _ _ _ _ _ _ _ h => h
theorem stepR_mono {P : Prg} {T : Nat → Option FD} {R RM : Rec} (mR : MonoR R) (mM : MonoR RM) : MonoR (stepR P T R RM) := fun f ds S Q Q' E E' hq hE ⟨d, e, l, h⟩ =>
  ⟨d, e, l, wpSs_mono (K := endK Q E) (K' := endK Q' E') mR mM d.body ⟨fun _ _ z => hq _ _ z, hq, fun _ _ z => z, fun _ _ z => z, fun _ => hE⟩ h⟩
theorem runs_mono (P : Prg) (T : Nat → Option FD) : ∀ k, MonoR (run P T k) ∧ MonoR (runM P T k)
  | 0 => ⟨botR_mono, botR_mono⟩
  | k + 1 => ⟨stepR_mono (runs_mono P T k).1 (runs_mono P T k).2, (runs_mono P T k).1⟩
/-- a def of the text, as the small language has it -/
def EC.fn (G : EC) (N : List Str) (scope : Scope) : EC := { G with N := N, sc := scope.names, own := (scope.names.filter fun p => p.2 == .cell).map (·.1) }
structure FnL (C : Cn) (G : EC) (a : Addr) (d : FD) (fd : FuncData) (ps : List Str) : Prop where
  ex : ∃ (name qual : Str) (params : Arguments) (body : List Stmt) (scope : Scope) (N : List Str) (n : Nat) (dn : List Str), FunD C.K name qual params body scope [] [] a fd ∧ FnScope N ps scope ∧ N.length = d.ns ∧ elSs (elS n ({ G with dn := dn }.fn N scope)) body = some d.body
  np : ps.length = d.np
  bd : ∀ (s : Shared) (us : List Value), us.length = ps.length → BindsTo s fd ⟨us, []⟩ (ps.zip us)
theorem FnL.binds {C : Cn} {G : EC} {a : Addr} {d : FD} {fd : FuncData} {ps : List Str} (F : FnL C G a d fd ps) : Binds C.K fd ps [] := fun s us _ hl => by
  rw [List.append_nil] at hl ⊢
  exact F.bd s us hl
def GlL (C : Cn) (P : Prg) (T : Nat → Option FD) (ad : Nat → Addr) (mg : Str → Option Value) (x : Str) : Gk → Prop
  | .cst d => ∃ v u, mg x = some u ∧ RelV v u ∧ ∀ H, RV C.K H v d
  | .fn f => mg x = some (.ref (ad f)) ∧ PySem.W.keepIn C.K (.ref (ad f)) = true ∧ (T f).isSome = true
  | .cls c => mg x = some (.ref (C.ca c)) ∧ PySem.W.keepIn C.K (.ref (C.ca c)) = true
  | .exc c => mg x = some (.ref (C.ca c)) ∧ PySem.W.excIn C.K (C.ca c) He.veBase "ValueError.__new__" = true ∧ PySem.W.keepIn C.K (.ref (C.ca c)) = true ∧
      PySem.W.subIn C.K (.ref (C.ca c)) (.type "BaseException") = some true ∧ PySem.W.typeIn C.K (.ref (C.ca c)) = some (.type "type")
structure Lk (C : Cn) (P : Prg) (T : Nat → Option FD) (G : EC) (ad : Nat → Addr) (mg : Str → Option Value) : Prop where
  F : Fcts C
  fns : ∀ f d, T f = some d → ∃ fd ps, FnL C G (ad f) d fd ps
  gl : ∀ x g, G.gl.lookup x = some g → GlL C P T ad mg x g
  bn : ∀ x, G.bn.contains x = true → mg x = none
  fld : ∀ s f, G.flds.lookup s = some f → C.nm f = s ∧ C.isF f
  mnm : ∀ s f, G.mths.lookup s = some f → C.nm f = s
  mth : ∀ c m f, P.meth c m = some f → Meth C.K (C.ca c) (C.nm m) (ad f) ∧ (T f).isSome = true
  ini : ∀ c f, P.init c = some f → Mk C.K (C.ca c) (ad f) ∧ (T f).isSome = true
  icl : ∀ c f, P.init c = some f → C.isC c
  sub : ∀ c' c b, P.sub c' c = some b → PySem.W.exmOne C.K (.ref (C.ca c')) (.ref (C.ca c)) = some b
  isx : ∀ c' oc b, P.isx c' oc = some b → ExcC C.K (C.ca c') ∧ PySem.W.kitOne C.K (.ref (C.ca c')) (cvU C oc) = some b
def XQ (C : Cn) (H : Hp) (E : XK) : PX := fun c S' => ∀ H', Ext C.K H H' → SOk C H' S' → E (.ref (C.ca c)) none H'
/-- a def's promise -/
def spR (C : Cn) (R : Rec) (n f : Nat) : Sp := fun vs H Q E => ∃ ds S, ds.length = n ∧ RVs C.K H vs ds ∧ SOk C H S ∧ R f ds S (QV C H Q) (XQ C H E)
theorem start_rl {C : Cn} {H : Hp} {S : Store} {N : List Str} {vs : List V} {ds : List D} {n : Nat} (r : RVs C.K H vs ds) (ok : SOk C H S) (hn : N.length = n) : Rl C (L2.start N vs) H (startE n ds) S := by
  have hl := r.length
  refine ⟨?_, fun i d e => ?_, ok⟩
  · unfold L2.start startE
    rw [List.length_append, List.length_append, List.length_map, List.length_map, List.length_replicate, List.length_replicate, hl, hn]
  · unfold startE at e
    unfold L2.start
    by_cases hi : i < ds.length
    · rw [List.getElem?_append_left (by simpa using hi), List.getElem?_map] at e
      cases q : ds[i]? with
      | none => rw [q] at e; cases e
      | some d' =>
        rw [q] at e
        cases e
        obtain ⟨v, h1, h2⟩ := r.get q
        refine ⟨v, ?_, h2⟩
        rw [List.getElem?_append_left (by simpa [hl] using hi), List.getElem?_map, h1]
        rfl
    · rw [List.getElem?_append_right (by simpa using Nat.le_of_not_lt hi), List.getElem?_replicate] at e
      split at e <;> cases e
theorem fn_call {X : Cx} {C : Cn} {W : WX} {a : Addr} {fd : FuncData} {ps : List Str} {R : Rec} {k n f : Nat} (hK : X.K = C.K) (F : FnOk X.prog X.w X.K X.mg X.base (L2.CX X.prog X.w) k a fd ps (spR C R n f)) (hr : Room k X.A) (hb : Binds C.K fd ps [])
    (tk : Takes X W) (mR : MonoR R) (hn : ∀ ds S Q E, R f ds S Q E → ds.length = n) : CallOk X C W a fun ds S Q E => R f ds S Q E := by
  intro pins σ H s us vs ds S Q I rv rd ok h
  exact run_fnS (E := L2.WE W) F hr (hK ▸ hb) (passAt tk σ) I rv ⟨ds, S, hn _ _ _ _ h, rd, ok, h⟩
/-- a new instance, where the wish is for the slots σ -/
theorem mk_at {X : Cx} {CX : CXT} {k : Nat} {c f : Addr} {fd : FuncData} {ps : List Str} {sp : Sp} {E : XK} {pins : List (Addr × Obj)} {σ : St2} {H : Hp} {s : Shared} {Q : VK} {us : List Value} {vs : List V}
    (M : Mk X.K c f) (F : FnOk X.prog X.w X.K X.mg X.base CX k f fd ps sp) (hr : Room (k + 1) X.A) (hb : Binds X.K fd ps []) (hx : PassesAt CX X σ E) (I : L2.Inv X pins σ H s) (r : Vals vs us)
    (h : ∀ x dx, H x = none → H dx = none → dx ≠ x → sp (.ref x :: vs) (upd (upd H dx (.own x)) x (.ins c dx [])) (fun v H2 => v = .non ∧ Q (.ref x) H2) E) :
    wpAny (model X.prog X.w) X.A (call (.ref c) us) (EP X pins σ Q) X.xe s := by
  have b0 := I.hok.fresh (Nat.le_refl s.heap.objs.size)
  have b1 := I.hok.fresh (Nat.le_succ s.heap.objs.size)
  have q := h _ _ b1 b0 (Nat.ne_of_lt (Nat.lt_succ_self _))
  have J := Inv.made (C := c) I
  have rr : Vals (V.ref (s.heap.objs.size + 1) :: vs) (Value.ref (s.heap.objs.size + 1) :: us) := .cons rfl r
  have len := F.len _ _ _ _ q
  have bnd := hb _ (Value.ref (s.heap.objs.size + 1) :: us) J.kIn (by rw [List.append_nil, ← rr.length]; exact len)
  rw [List.append_nil] at bnd
  have go := F.run _ X.stack _ _ ⟨Value.ref (s.heap.objs.size + 1) :: us, []⟩ _ _ _ E (hr.make c us []) (J.env0.make c us []) bnd rr q
  apply wpAny_call
  apply make_map (f := f) I.kIn M.makes M.init (beq_iff_eq.mp M.fn)
  refine codeAny_mono go ?_
  intro z s' hz
  match z, hz with
  | .error e, hz => exact hx pins _ _ e s' J hz
  | .ok (.ret u), hz =>
    obtain ⟨v, H', J2, rv, ev, z⟩ := J.after hz
    subst ev
    exact ⟨rv, .ref (s.heap.objs.size + 1), H', J2, rfl, z⟩
  | .ok .next, hz => exact hz.elim
  | .ok .brk, hz => exact hz.elim
  | .ok .cont, hz => exact hz.elim
theorem mk_call {X : Cx} {C : Cn} {W : WX} {c : Nat} {a : Addr} {fd : FuncData} {ps : List Str} {P : Prg} {R : Rec} {k n f : Nat} (hK : X.K = C.K) (hc : C.isC c) (M : Mk C.K (C.ca c) a) (hi : P.init c = some f)
    (F : FnOk X.prog X.w X.K X.mg X.base (L2.CX X.prog X.w) k a fd ps (spR C R n f)) (hr : Room (k + 1) X.A) (hb : Binds C.K fd ps [])
    (tk : Takes X W) (mR : MonoR R) (hn : ∀ ds S Q E, R f ds S Q E → ds.length = n) : CallOk X C W (C.ca c) (mkW P R c) := by
  intro pins σ H s us vs ds S Q I rv rd ok ⟨f', e1, h⟩
  rw [hi] at e1
  cases e1
  refine mk_at (E := L2.WE W σ) (hK ▸ M) F hr (hK ▸ hb) (passAt tk σ) I rv fun x dx nx ndx nex => ?_
  have x1 : Ext C.K H (upd H dx (.own x)) := Ext.new ndx
  have ok1 : SOk C (upd H dx (.own x)) S := ok.new0 ndx
  have nx1 : (upd H dx (.own x)) x = none := by rw [upd_ne (fun z => nex z.symm)]; exact nx
  have x2 : Ext C.K (upd H dx (.own x)) (upd (upd H dx (.own x)) x (.ins (C.ca c) dx [])) := Ext.new nx1
  have q := h x (ok.none_of nx)
  refine ⟨.ref x :: ds, S.upd x (.ins c []), hn _ _ _ _ q, .cons (.ref x) (rd.ext (x1.trans x2)), ok1.new nx1 ⟨dx, [], upd_same, .nil, hc⟩, mR _ _ _ _ _ _ _ (fun v S2 ⟨e, z⟩ => ?_) (fun c S' q H' x3 ok' => q H' ((x1.trans x2).trans x3) ok') q⟩
  subst e
  intro v2 H2 x3 ok2 rv2
  cases rv2
  exact ⟨rfl, z (.ref x) H2 ((x1.trans x2).trans x3) ok2 (.ref x)⟩
section
variable {C : Cn} {P : Prg} {T : Nat → Option FD} {G : EC} {ad : Nat → Addr} {mg : Str → Option Value} {prog : Program} {w : World} {base : Heap}
def OkF (C : Cn) (G : EC) (T : Nat → Option FD) (ad : Nat → Addr) (mg : Str → Option Value) (prog : Program) (w : World) (base : Heap) (R : Rec) (k : Nat) : Prop :=
  ∀ f d fd ps, T f = some d → FnL C G (ad f) d fd ps → FnOk prog w C.K mg base (L2.CX prog w) k (ad f) fd ps (spR C R d.np f)
theorem okF_bot {k : Nat} : OkF C G T ad mg prog w base botR k := fun f d fd ps _ _ => ⟨fun _ _ _ _ ⟨_, _, _, _, _, h⟩ => h.elim, fun _ _ _ _ _ _ _ _ _ _ _ _ _ ⟨_, _, _, _, _, h⟩ => h.elim⟩
def LenR (T : Nat → Option FD) (R : Rec) : Prop := ∀ f d ds S Q E, T f = some d → R f ds S Q E → ds.length = d.np
theorem runs_len (P : Prg) (T : Nat → Option FD) : ∀ k, LenR T (run P T k) ∧ LenR T (runM P T k)
  | 0 => ⟨fun _ _ _ _ _ _ _ h => h.elim, fun _ _ _ _ _ _ _ h => h.elim⟩
  | k + 1 => ⟨fun f d ds S Q E e ⟨d', e', l, _⟩ => by
      rw [e] at e'
      cases e'
      exact l, (runs_len P T k).1⟩
/-- what XOk asks of the names, from the link -/
theorem xok_of {k : Nat} {R RM : Rec} {X : Cx} {W : WX} {N : List Str} {scope : Scope} (L : Lk C P T G ad mg) (mR : MonoR R) (mM : MonoR RM) (lR : LenR T R) (lM : LenR T RM) (hR : OkF C G T ad mg prog w base R (k + 1)) (hM : OkF C G T ad mg prog w base RM k)
    (hp : X.prog = prog) (hw : X.w = w) (hK : X.K = C.K) (hmg : X.mg = mg) (hba : X.base = base) (hr : Room (k + 1) X.A) (hN : X.N = N) (nd : N.Nodup) (hs : X.env.scope = scope) (hk : scope.kind = .function)
    (hfn : ∀ x, X.fn x = true) (hc : X.calm = true) (tk : Takes X W) (po : PassesOwn (model X.prog X.w) X.A X.env X.xe) : XOk (G.fn N scope) C P R RM W X := by
  subst hp hw hmg hba hN hs
  have cal : ∀ f d, T f = some d → ∀ Y W', Same X Y → Takes Y W' → CallOk Y C W' (ad f) fun ds S Q E => R f ds S Q E := fun f d e Y W' sm tk' => by
    obtain ⟨fd, ps, h⟩ := L.fns f d e
    obtain ⟨s1, s2, s3, s4, s5, s6⟩ := sm
    have F := hR f d fd ps e h
    refine fn_call (k := k + 1) (s3.trans hK) ?_ (s6 ▸ hr) h.binds tk' mR fun ds S Q E z => lR f d ds S Q E e z
    rw [s1, s2, s3, s4, s5, hK]
    exact F
  refine { K := hK, N := rfl, nd := nd, scn := rfl, sck := hk, fnc := fun x _ => hfn x, calm := hc, hu := hr.units, tk := tk, po := po, F := L.F, gl := fun x g e => ?_, bn := L.bn, fld := L.fld, mnm := L.mnm, sub := L.sub, isx := L.isx, mth := fun m Y W' sm tk' c f e => ?_ }
  · have q := L.gl x g e
    cases g with
    | cst d => exact q
    | fn f =>
      obtain ⟨q1, q2, q3⟩ := q
      obtain ⟨d, e⟩ := Option.isSome_iff_exists.mp q3
      exact ⟨ad f, q1, hK ▸ q2, cal f d e⟩
    | cls c =>
      obtain ⟨q1, q2⟩ := q
      refine ⟨C.ca c, q1, hK ▸ q2, fun Y W' sm tk' => ?_⟩
      intro pins σ H s us vs ds S Q I rv rd ok hh
      obtain ⟨f, e1, z⟩ := hh
      obtain ⟨M, hT⟩ := L.ini c f e1
      obtain ⟨d, e2⟩ := Option.isSome_iff_exists.mp hT
      obtain ⟨fd, ps, h⟩ := L.fns f d e2
      obtain ⟨s1, s2, s3, s4, s5, s6⟩ := sm
      have F := hM f d fd ps e2 h
      refine mk_call (k := k) (s3.trans hK) (L.icl c f e1) M e1 ?_ (s6 ▸ hr) h.binds tk' mM (fun ds S Q E z => lM f d ds S Q E e2 z) pins σ H s us vs ds S Q I rv rd ok ⟨f, e1, z⟩
      rw [s1, s2, s3, s4, s5, hK]
      exact F
    | exc c =>
      show X.mg x = _ ∧ PySem.W.excIn X.K _ _ _ = true ∧ PySem.W.keepIn X.K _ = true ∧ PySem.W.subIn X.K _ _ = _ ∧ PySem.W.typeIn X.K _ = _
      rw [hK]
      exact q
  · obtain ⟨M, hT⟩ := L.mth c m f e
    obtain ⟨d, e2⟩ := Option.isSome_iff_exists.mp hT
    refine ⟨ad f, ?_, cal f d e2 Y W' sm tk'⟩
    rw [sm.K, hK]
    exact M
/-- the runs keep what the defs of the text do -/
theorem all_ok (L : Lk C P T G ad mg) : ∀ k, OkF C G T ad mg prog w base (run P T k) (k + 1) ∧ OkF C G T ad mg prog w base (runM P T k) k
  | 0 => ⟨okF_bot, okF_bot⟩
  | k + 1 => by
    obtain ⟨h1, h2⟩ := all_ok L k
    refine ⟨fun f d fd ps e hF => ?_, h1⟩
    obtain ⟨⟨name, qual, params, body, scope, N, n, dn, FU, FS, hN, he⟩, hnp, _⟩ := hF
    refine FU.ok FS (fun vs H Q E ⟨ds, S, hl, rv, _⟩ => by rw [rv.length, hl, hnp]) fun cdv A outer s H vs Q E hr ⟨ds, S, hl, rv, ok, h⟩ => ?_
    obtain ⟨d', e', l', q⟩ := h
    rw [e] at e'
    cases e'
    have mR := (runs_mono P T k).1
    have mM := (runs_mono P T k).2
    have tk : Takes (cxOf (L2.CX prog w) prog w C.K mg base N qual scope (ad f) cdv A outer s H E) (fun cls d _ H => E cls d H) := takes_of rfl rfl rfl rfl
    have x := xok_of (N := N) (scope := scope) L mR mM (runs_len P T k).1 (runs_len P T k).2 h1 h2 (X := cxOf (L2.CX prog w) prog w C.K mg base N qual scope (ad f) cdv A outer s H E) rfl rfl rfl rfl rfl hr rfl FS.nd rfl FS.kind (fun _ => rfl) rfl tk (passes_of rfl)
    refine ⟨LS C (fun cls d _ H => E cls d H) (wpSs P (run P T k) (runM P T k) d.body), elSs_ok mR mM (fun s ir h => elS_ok mR mM n (x.dn dn) rfl rfl s ir h) he, ?_⟩
    refine ⟨startE d.ns ds, S, start_rl rv ok hN, wpSs_mono mR mM d.body ?_ q⟩
    exact ⟨fun env' S' z σ' H' x' r' => z .non H' x' r'.2.2 .non, fun _ _ z => z, fun _ _ z => z.elim, fun _ _ z => z.elim, fun _ c S' z σ' H' x' r' => z H' x' r'.2.2⟩
end
theorem _root_.L2.FnOk.cx {P : Program} {w : World} {K : PySem.W.Frag} {mg : Str → Option Value} {base : Heap} {CX CX' : CXT} {k : Nat} {f : Addr} {fd : FuncData} {ps : List Str} {sp : Sp} (F : FnOk P w K mg base CX k f fd ps sp)
    (h : ∀ o H s E e s', CX o H s E e s' → CX' o H s E e s') : FnOk P w K mg base CX' k f fd ps sp :=
  ⟨F.len, fun A outer s H args us vs Q E hr e0 hb hv hs => codeAny_mono (F.run A outer s H args us vs Q E hr e0 hb hv hs) fun r s' q => by
    cases r with
    | error e => exact h _ _ _ _ _ _ q
    | ok fl =>
      cases fl <;> exact q⟩
def CXw (P : Program) : CXT := fun o H s E e s' => ∃ w, L2.CX P w o H s E e s'
/-- the law's end -/
theorem law_end {l : PySem.W.OpenLaw} {n k : Nat} {q : Program} {loose : List Str} {XP : (Str → Option Value) → Heap → Prop} {YP : World → Heap → Prop} {d : DefRec} {P : Prg} {T : Nat → Option FD} {x : Str} {f : Nat} {fd0 : FD}
    (hn : l.most = some n) (hn2 : n ≤ sizeLine) (hdf : d.params.defaults = []) (hr : Room (k + 1) callerA) (hT : T f = some fd0) (h1 : fd0.np = 1)
    (F : ∀ (w : World) (mg : Str → Option Value) (fa : Addr) (h : Heap), YP w h → h.Ns mainGlobals mg → mg d.name = some (.ref fa) →
      ∃ (C : Cn) (G : EC) (ad : Nat → Addr) (fd : FuncData), C.K.In h ∧ Lk C P T G ad mg ∧ ad f = fa ∧ FnL C G fa fd0 fd [x])
    (hlaw : ∀ ns : List Int, ns.length ≤ n → run P T k f [.rl (ns.map .int)] (fun _ => none) (fun v _ => v = .bl true) noX) :
    PySem.W.WalkO q loose XP YP l.row.toRowW d [] (fun f vs => PySem.call f vs) := by
  refine walk_ofE (l := l) (n := n) (k := k + 1) (CX := CXw l.prog) (x := x) hn hn2 hdf hr ?_ ?_
  · intro w mg fa h Y G' hmg
    obtain ⟨C, G, ad, fd, KX, L, e, hF⟩ := F w mg fa h Y G' hmg
    subst e
    refine ⟨C.K, fd, spR C (run P T k) fd0.np f, KX, fun s u => hF.bd s [u] rfl, fun H a ns hl hO hS => ?_, fun base _ _ => ((all_ok L k).1 f fd0 fd [x] hT hF).cx fun _ _ _ _ _ _ z => ⟨w, z⟩⟩
    have ro : RoL C.K H a (ns.map V.int) := by
      rcases hS with (h | h) | h
      · rcases hO a with z | ⟨o, xs, z⟩
        · rw [z] at h; cases h
        · rw [z] at h; cases h
      · exact .inl h
      · exact .inr h
    refine ⟨[.rl (ns.map .int)], fun _ => none, h1.symm, .cons (.rl ro RVs.ofInts) .nil, (fun a c (z : (none : Option Cell) = some c) => by cases z), (runs_mono P T k).1 _ _ _ _ _ _ _ (fun v S q => ?_) (fun _ _ z => z.elim) (hlaw ns hl)⟩
    subst q
    intro v2 H2 _ _ r2
    cases r2
    rfl
  · intro H s e s' ⟨w, _, _, _, _, _, _, _, _, _, _, _, _, z⟩
    exact z
/-! ### lists of facts -/
theorem lookup_mem {α β : Type} [BEq α] [LawfulBEq α] {x : α} {g : β} : ∀ {l : List (α × β)}, l.lookup x = some g → (x, g) ∈ l
  | [], h => by cases h
  | (y, b) :: r, h => by
    rw [List.lookup_cons] at h
    split at h
    · rename_i e
      cases h
      rw [eq_of_beq e]
      exact List.mem_cons_self
    · exact List.mem_cons_of_mem _ (lookup_mem h)
theorem alln {α : Type} {p : α → Prop} : ∀ x ∈ ([] : List α), p x := fun _ h => by cases h
theorem allc {α : Type} {p : α → Prop} {a : α} {l : List α} (h : p a) (t : ∀ x ∈ l, p x) : ∀ x ∈ a :: l, p x := fun x hx => by
  rcases List.mem_cons.mp hx with e | hx
  · rw [e]
    exact h
  · exact t x hx
/-! ### the hook: facts, defs, one Bool more -/
def hookS (n : Nat) (fa : List He.Fa) (fn : List He.DefD) (ex : PySem.W.Frag → Bool) : PySem.W.Hook where
  α := He.AlD × Bool
  obs := fun s => (He.obsDG n fa fn s.heap.get?, ex (He.frG s.heap.get? (He.asD s.heap.get? n)))
  val := fun _ => (He.valD fn, true)
  says := fun _ h => ∃ K : PySem.W.Frag, K.In h ∧ He.SaysD fa fn K ∧ ex K = true
  of := fun _ _ e => ⟨_, He.frG_in, congrArg (fun z : He.AlD × Bool => z.1) e, congrArg (fun z : He.AlD × Bool => z.2) e⟩
  keeps := fun _ _ _ ⟨K, hK, c⟩ k => ⟨K, PySem.W.Frag.In.keeps hK k, c⟩
def obS (n : Nat) (fa : List He.Fa) (fn : List He.DefD) (ex : PySem.W.Frag → Bool) (g : Addr → Option Obj) : He.AlD × Bool := (He.obsDG n fa fn g, ex (He.frG g (He.asD g n)))
theorem obS_eq {n : Nat} {fa : List He.Fa} {fn : List He.DefD} {ex : PySem.W.Frag → Bool} {g : Addr → Option Obj} {s : Shared} (h : ∀ a, g a = s.heap.get? a) : obS n fa fn ex g = (hookS n fa fn ex).obs s := by
  have e : g = s.heap.get? := funext h
  rw [e] <;> rfl
/-- a constant of the module that is a tuple of ints, texts -/
def dvD : He.Dv → D
  | .int i => .int i
  | .str s => .str s
  | .bl b => .bl b
  | _ => .non
def dvOk : He.Dv → Bool
  | .int _ => true
  | .str _ => true
  | .bl _ => true
  | .non => true
  | _ => false
theorem rv_dv {K : PySem.W.Frag} {H : Hp} : ∀ {vs : List He.Dv}, vs.all dvOk = true → RVs K H (vs.map (He.Dv.v K)) (vs.map dvD)
  | [], _ => .nil
  | v :: vs, h => by
    rw [List.all_cons, Bool.and_eq_true] at h
    refine .cons ?_ (rv_dv h.2)
    cases v with
    | int i => exact .int i
    | str s => exact .str s
    | bl b => exact .bl b
    | non => exact .non
    | _ => cases h.1
theorem gl_tup {C : Cn} {P : Prg} {T : Nat → Option FD} {ad : Nat → Addr} {mg : Str → Option Value} {x : Str} {vs : List He.Dv} (h1 : mg x = some (.ref (He.ga C.K x))) (h2 : He.tupB C.K x vs = true) (h3 : vs.all dvOk = true) : GlL C P T ad mg x (.cst (.tup (vs.map dvD))) :=
  ⟨.ref (He.ga C.K x), _, h1, rfl, fun H => .tup (He.tupB_ok h2 H) (rv_dv h3)⟩
/-! classes of exceptions -/
def excB (K : PySem.W.Frag) (D : Addr) : Bool :=
  decide (PySem.W.findIn K (.ref D) "__getattribute__" = some (some (.builtin "BaseException.__getattribute__"))) && (decide (PySem.W.findIn K (.ref D) "__getattr__" = some none) && (decide (PySem.W.subIn K (.ref D) (.type "BaseException") = some true) && (PySem.W.hasDictIn K D &&
  (decide (PySem.W.findIn K (.ref D) "__class__" = some (some (.builtin "object.__class__"))) && (decide (PySem.W.specialIn K (.builtin "object.__class__") "__get__" = some (some (.builtin "getset_descriptor.__get__"))) && (decide (PySem.W.takesIn K (.builtin "object.__class__") = some true) && decide (PySem.W.mroIn K D (.type "object") = some true)))))))
theorem excB_ok {K : PySem.W.Frag} {D : Addr} (h : excB K D = true) : ExcC K D := by
  unfold excB at h
  simp only [Bool.and_eq_true, decide_eq_true_eq] at h
  obtain ⟨h1, h2, h3, h4, h5, h6, h7, h8⟩ := h
  exact ⟨h1, h2, h3, h4, h5, h6, h7, h8⟩
def exS (C : Cn) (subT : List ((Nat × Nat) × Bool)) (isxT : List ((Nat × Option Nat) × Bool)) : Bool :=
  subT.all (fun q => decide (PySem.W.exmOne C.K (.ref (C.ca q.1.1)) (.ref (C.ca q.1.2)) = some q.2)) && isxT.all fun q => excB C.K (C.ca q.1.1) && decide (PySem.W.kitOne C.K (.ref (C.ca q.1.1)) (cvU C q.1.2) = some q.2)
theorem exS_sub {C : Cn} {subT : List ((Nat × Nat) × Bool)} {isxT : List ((Nat × Option Nat) × Bool)} (h : exS C subT isxT = true) (c' c : Nat) (b : Bool) (e : subT.lookup (c', c) = some b) : PySem.W.exmOne C.K (.ref (C.ca c')) (.ref (C.ca c)) = some b := by
  unfold exS at h
  rw [Bool.and_eq_true, List.all_eq_true] at h
  exact of_decide_eq_true (h.1 _ (lookup_mem e))
theorem exS_isx {C : Cn} {subT : List ((Nat × Nat) × Bool)} {isxT : List ((Nat × Option Nat) × Bool)} (h : exS C subT isxT = true) (c' : Nat) (oc : Option Nat) (b : Bool) (e : isxT.lookup (c', oc) = some b) : ExcC C.K (C.ca c') ∧ PySem.W.kitOne C.K (.ref (C.ca c')) (cvU C oc) = some b := by
  unfold exS at h
  rw [Bool.and_eq_true, List.all_eq_true, List.all_eq_true] at h
  have z := h.2 _ (lookup_mem e)
  rw [Bool.and_eq_true, decide_eq_true_eq] at z
  exact ⟨excB_ok z.1, z.2⟩
end SW
/-! SW, part P: what a proof about a run uses. -/
namespace SW
open PySem L2
/-! ### stores that keep -/
structure Kp (W : List Addr) (S S' : Store) : Prop where
  keep : ∀ p c, p ∉ W → S p = some c → S' p = some c
  dom : ∀ p, S' p = none → S p = none
theorem Kp.refl {W : List Addr} {S : Store} : Kp W S S := ⟨fun _ _ _ h => h, fun _ h => h⟩
theorem Kp.step {W W' : List Addr} {S S1 S2 : Store} (a : Kp W S S1) (b : Kp W' S1 S2) (h : ∀ x ∈ W', x ∈ W ∨ S x = none) : Kp W S S2 :=
  ⟨fun p c hp e => b.keep p c (fun hm => by
    rcases h p hm with z | z
    · exact hp z
    · rw [z] at e; cases e) (a.keep p c hp e), fun p e => a.dom p (b.dom p e)⟩
theorem Kp.of_new {S S' : Store} {p : Addr} {c : Cell} (hp : S p = none) (e : S.upd p c = S') : Kp [] S S' := by
  subst e
  refine ⟨fun q d _ h => ?_, fun q h => ?_⟩
  · rw [Store.upd_ne (fun z => by rw [z, hp] at h; cases h)]
    exact h
  · by_cases z : q = p
    · rw [z]; exact hp
    · rw [Store.upd_ne z] at h; exact h
theorem Kp.of_put {S S' : Store} {p : Addr} {c : Cell} (hp : S p ≠ none) (e : S.upd p c = S') : Kp [p] S S' := by
  subst e
  refine ⟨fun q d' hq h => ?_, fun q h => ?_⟩
  · rw [Store.upd_ne (fun z => hq (by rw [z]; exact List.mem_cons_self))]
    exact h
  · by_cases z : q = p
    · rw [z, Store.upd_same] at h; cases h
    · rw [Store.upd_ne z] at h; exact h
theorem of_upd {S S' : Store} {p : Addr} {c : Cell} (e : S.upd p c = S') : S' p = some c := by
  subst e
  exact Store.upd_same
theorem ne_new {S : Store} {p x : Addr} (h : S p = none) (e : S x ≠ none) : x ≠ p := fun z => e (by rw [z]; exact h)
theorem is_of {S : Store} {x : Addr} {c : Cell} (e : S x = some c) : S x ≠ none := fun z => by rw [e] at z; cases z
theorem Kp.is {W : List Addr} {S S' : Store} {x : Addr} (k : Kp W S S') (e : S x ≠ none) : S' x ≠ none := fun z => e (k.dom _ z)
theorem nm0 {x : Addr} : x ∉ ([] : List Addr) := List.not_mem_nil
theorem nm1 {x w : Addr} {W : List Addr} (h : x ≠ w) (t : x ∉ W) : x ∉ w :: W := fun z => by
  rcases List.mem_cons.mp z with z | z
  · exact h z
  · exact t z
/-! ### steps -/
theorem w_ifb {p : Bool} {A B : Prop} (h1 : p = true → A) (h2 : p = false → B) : ∃ c, D.bl p = .bl c ∧ if c = true then A else B := ⟨p, rfl, by
  cases p with
  | true => exact h1 rfl
  | false => exact h2 rfl⟩
theorem w_if {p : Prop} [Decidable p] {A B : Prop} (h1 : p → A) (h2 : ¬ p → B) : ∃ c, D.bl (decide p) = .bl c ∧ if c = true then A else B := ⟨_, rfl, by
  by_cases h : p
  · rw [decide_eq_true h]; exact h1 h
  · rw [decide_eq_false h]; exact h2 h⟩
theorem w_t {A B : Prop} (h : A) : ∃ c, D.bl true = .bl c ∧ if c = true then A else B := ⟨_, rfl, h⟩
theorem w_f {A B : Prop} (h : B) : ∃ c, D.bl false = .bl c ∧ if c = true then A else B := ⟨_, rfl, h⟩
theorem run_succ {P : Prg} {T : Nat → Option FD} {k f : Nat} {ds : List D} {S : Store} {Q : PQ} {E : PX} {d : FD} (hk : 1 ≤ k) (e : T f = some d) (l : ds.length = d.np)
    (h : ∀ j, k = j + 1 → wpSs P (run P T j) (runM P T j) d.body (startE d.ns ds) S (endK Q E)) : run P T k f ds S Q E := by
  cases k with
  | zero => exact absurd hk (by decide)
  | succ j => exact ⟨d, e, l, h j rfl⟩
structure Cond (p : Bool) (A B : Prop) : Prop where
  gate : Gate
  out : if p = true then A else B
theorem cond {p : Bool} {A B : Prop} (h : if p = true then A else B) : Cond p A B := ⟨.mk 5 rfl, h⟩
theorem w_cond {p : Bool} {A B : Prop} (h : Cond p A B) : ∃ c, D.bl p = .bl c ∧ if c = true then A else B := ⟨p, rfl, h.out⟩
theorem cd {p : Prop} [Decidable p] {A B : Prop} (h1 : p → A) (h2 : ¬ p → B) : Cond (decide p) A B := cond (by
  by_cases h : p
  · rw [decide_eq_true h]; exact h1 h
  · rw [decide_eq_false h]; exact h2 h)
theorem cdn {p : Prop} [Decidable p] {A B : Prop} (h1 : ¬ p → A) (h2 : p → B) : Cond (!decide p) A B := cond (by
  by_cases h : p
  · rw [decide_eq_true h]; exact h2 h
  · rw [decide_eq_false h]; exact h1 h)
theorem cdT {p : Bool} {A B : Prop} (e : p = true) (h : A) : Cond p A B := cond (by rw [e]; exact h)
theorem cdF {p : Bool} {A B : Prop} (e : p = false) (h : B) : Cond p A B := cond (by rw [e]; exact h)
theorem cb {p : Bool} {A B : Prop} (h1 : p = true → A) (h2 : p = false → B) : Cond p A B := cond (by
  cases p with
  | true => exact h1 rfl
  | false => exact h2 rfl)
theorem w_ixl {S : Store} {a : Addr} {xs : List D} {i : Int} {d : D} {Q : D → Prop} {Z : Prop} (h : S a = some (.lst xs)) (e : atI xs i = some d) (q : Q d) :
    (∃ xs i' d, S a = some (.lst xs) ∧ D.int i = .int i' ∧ atI xs i' = some d ∧ Q d) ∨ Z := .inl ⟨xs, i, d, h, rfl, e, q⟩
theorem w_asSl {S : Store} {a : Addr} {xs xs' : List D} {i : Int} {j : Nat} {d : D} {Q : Store → Prop} {Z : Prop} (h : S a = some (.lst xs)) (e : ixN xs.length i = some j) (e2 : xs.set j d = xs') (q : ∀ S', Kp [a] S S' → S' a = some (.lst xs') → Q S') :
    (∃ p xs k j, D.ref a = .ref p ∧ S p = some (.lst xs) ∧ D.int i = .int k ∧ ixN xs.length k = some j ∧ Q (S.upd p (.lst (xs.set j d)))) ∨ Z := .inl ⟨a, xs, i, j, rfl, h, rfl, e, by
  subst e2
  exact q _ (Kp.of_put (is_of h) rfl) (of_upd rfl)⟩
theorem seq_ref {S : Store} {a : Addr} {xs : List D} (h : S a = some (.lst xs)) : seqOf S (.ref a) = some xs := by
  simp only [seqOf, h]
theorem kdM_lst {S : Store} {a : Addr} {xs : List D} (h : S a = some (.lst xs)) : kdM S (.ref a) = some .lst := by
  simp only [kdM, h]
theorem kdM_dic {S : Store} {a : Addr} {xs : List (D × D)} (h : S a = some (.dic xs)) : kdM S (.ref a) = some .dic := by
  simp only [kdM, h]
theorem eqv_int (i j : Int) : PyData.eqv (.int i) (.int j) = decide (i = j) := by
  show (i == j) = _
  by_cases h : i = j
  · rw [h, decide_eq_true rfl]; exact beq_self_eq_true j
  · rw [decide_eq_false h]; exact beq_eq_false_iff_ne.mpr h
theorem eqv_bool (i j : Bool) : PyData.eqv (.bool i) (.bool j) = (i == j) := by
  cases i <;> cases j <;> rfl
theorem lenOk {n : Nat} (h : n ≤ 1000000) : n ≤ sizeLine := Nat.le_trans h (by decide)
theorem lenOk' {n : Nat} (h : n < 1000000) : n < sizeLine := Nat.lt_of_lt_of_le h (by decide)
theorem emod_rng (a : Int) {m : Int} (h : 0 < m) : 0 ≤ a % m ∧ a % m < m := ⟨Int.emod_nonneg a (Int.ne_of_gt h), Int.emod_lt_of_pos a h⟩
theorem drop_get {α : Type} {l : List α} {k : Nat} {d : α} (h : l[k]? = some d) : l.drop k = d :: l.drop (k + 1) := drop_cons h
/-! ### loops -/
/-- the end of a turn -/
structure Inn (p : Prop) : Prop where
  gate : Gate
  out : p
theorem inn {p : Prop} (h : p) : Inn p := ⟨.mk 5 rfl, h⟩
section
variable {P : Prg} {T : Nat → Option FD} {j : Nat}
theorem for_go {b : Sms} {t : Tg} {guard : Store → Prop} {K : Kt} {items : List D} (I : Nat → Env → Store → Prop) (hg : ∀ k env S, I k env S → guard S)
    (step : ∀ k d env S, items[k]? = some d → I k env S → ∃ env2, asgT t d env = some env2 ∧ wpSs P (run P T j) (runM P T j) b env2 S ⟨fun e s => Inn (I (k + 1) e s), K.rt, K.nx, fun e s => Inn (I (k + 1) e s), K.ex⟩)
    (fin : ∀ env S, I items.length env S → K.nx env S) : ∀ (m k : Nat) (env : Env) (S : Store), k + m = items.length → I k env S → forLoop guard (asgT t) (wpSs P (run P T j) (runM P T j) b) K (items.drop k) env S
  | 0, k, env, S, e, h => by
    rw [List.drop_eq_nil_of_le (by omega)]
    have e2 : k = items.length := by omega
    subst e2
    exact ⟨hg _ _ _ h, fin _ _ h⟩
  | m + 1, k, env, S, e, h => by
    have hk : k < items.length := by omega
    have ed : items[k]? = some items[k] := List.getElem?_eq_getElem hk
    rw [drop_get ed]
    obtain ⟨env2, e2, h2⟩ := step k _ env S ed h
    refine ⟨hg _ _ _ h, env2, e2, wpSs_mono (K := ⟨fun e s => Inn (I (k + 1) e s), K.rt, K.nx, fun e s => Inn (I (k + 1) e s), K.ex⟩) (runs_mono P T j).1 (runs_mono P T j).2 b ⟨?_, fun _ _ z => z, fun _ _ z => z, ?_, fun _ _ _ z => z⟩ h2⟩
    · exact fun env' S' h' => for_go I hg step fin m (k + 1) env' S' (by omega) h'.out
    · exact fun env' S' h' => for_go I hg step fin m (k + 1) env' S' (by omega) h'.out
theorem w_for {b : Sms} {t : Tg} {guard : Store → Prop} {K : Kt} {items : List D} {env : Env} {S : Store} (I : Nat → Env → Store → Prop) (h0 : I 0 env S) (hg : ∀ k env S, I k env S → guard S)
    (step : ∀ k d env S, items[k]? = some d → I k env S → ∃ env2, asgT t d env = some env2 ∧ wpSs P (run P T j) (runM P T j) b env2 S ⟨fun e s => Inn (I (k + 1) e s), K.rt, K.nx, fun e s => Inn (I (k + 1) e s), K.ex⟩)
    (fin : ∀ env S, I items.length env S → K.nx env S) : Hold (forLoop guard (asgT t) (wpSs P (run P T j) (runM P T j) b) K items env S) := hold (for_go I hg step fin items.length 0 env S (by omega) h0)
theorem rng_get {lo hi : Int} {k : Nat} {d : D} (h : (rngL lo hi)[k]? = some d) : d = .int (lo + (k : Int)) ∧ lo + (k : Int) < hi := by
  unfold rngL at h
  rw [List.getElem?_map] at h
  by_cases hk : k < (hi - lo).toNat
  · rw [List.getElem?_range hk] at h
    cases h
    exact ⟨rfl, by omega⟩
  · rw [List.getElem?_eq_none (by rw [List.length_range]; omega)] at h
    cases h
theorem rng_len {lo hi : Int} : (rngL lo hi).length = (hi - lo).toNat := by
  unfold rngL
  rw [List.length_map, List.length_range]
/-- over a range: I at each number -/
theorem w_rng {b : Sms} {s : Nat} {K : Kt} {lo hi : Int} {env : Env} {S : Store} (I : Int → Env → Store → Prop) (hle : lo ≤ hi) (h0 : I lo env S)
    (step : ∀ i env S, lo ≤ i → i < hi → I i env S → wpSs P (run P T j) (runM P T j) b (env.set s (some (.int i))) S ⟨fun e s => Inn (I (i + 1) e s), K.rt, K.nx, fun e s => Inn (I (i + 1) e s), K.ex⟩)
    (fin : ∀ env S, I hi env S → K.nx env S) : Hold (forLoop (fun _ => True) (asgT (.nm s)) (wpSs P (run P T j) (runM P T j) b) K (rngL lo hi) env S) := by
  refine w_for (fun k => I (lo + (k : Int))) (by rw [show lo + ((0 : Nat) : Int) = lo by omega]; exact h0) (fun _ _ _ _ => trivial) (fun k d env S e h => ?_) fun env S h => ?_
  · obtain ⟨e1, e2⟩ := rng_get e
    subst e1
    refine ⟨_, rfl, ?_⟩
    have q := step _ env S (by omega) e2 h
    have e3 : lo + ((k + 1 : Nat) : Int) = lo + (k : Int) + 1 := by omega
    simp only [e3]
    exact q
  · rw [rng_len, show lo + ((hi - lo).toNat : Int) = hi by omega] at h
    exact fin _ _ h
theorem while_go {b : Sms} {Tt : Env → Store → PQ → Prop} {K : Kt} (I : Nat → Env → Store → Prop) (mT : ∀ env S Q Q', (∀ d S, Q d S → Q' d S) → Tt env S Q → Tt env S Q')
    (step : ∀ m env S, I m env S → Tt env S fun x S1 => ∃ c, x = .bl c ∧ if c = true then (∃ m', m = m' + 1 ∧ wpSs P (run P T j) (runM P T j) b env S1 ⟨fun e s => Inn (I m' e s), K.rt, K.nx, fun e s => Inn (I m' e s), K.ex⟩) else K.nx env S1) :
    ∀ (m : Nat) (env : Env) (S : Store), I m env S → whileN Tt (wpSs P (run P T j) (runM P T j) b) K (m + 1) env S := by
  intro m
  induction m with
  | zero =>
    intro env S h
    refine mT _ _ _ _ (fun x S1 ⟨c, e, z⟩ => ⟨c, e, ?_⟩) (step 0 env S h)
    cases c with
    | true => obtain ⟨m', e', _⟩ := z; cases e'
    | false => exact z
  | succ m ih =>
    intro env S h
    refine mT _ _ _ _ (fun x S1 ⟨c, e, z⟩ => ⟨c, e, ?_⟩) (step (m + 1) env S h)
    cases c with
    | true =>
      obtain ⟨m', e', z⟩ := z
      cases e'
      exact wpSs_mono (K := ⟨fun e s => Inn (I m e s), K.rt, K.nx, fun e s => Inn (I m e s), K.ex⟩) (runs_mono P T j).1 (runs_mono P T j).2 b ⟨fun env' S' h' => ih env' S' h'.out, fun _ _ z => z, fun _ _ z => z, fun env' S' h' => ih env' S' h'.out, fun _ _ _ z => z⟩ z
    | false => exact z
theorem w_while {b : Sms} {e : Ex} {nx bk ct : Env → Store → Prop} {rt : PQ} {ex : Env → PX} {env : Env} {S : Store} (I : Nat → Env → Store → Prop) (m : Nat) (h0 : I m env S)
    (step : ∀ m env S, I m env S → wpE P (run P T j) (runM P T j) e env S (fun x S1 => ∃ c, x = .bl c ∧ if c = true then (∃ m', m = m' + 1 ∧ wpSs P (run P T j) (runM P T j) b env S1 ⟨fun e s => Inn (I m' e s), rt, nx, fun e s => Inn (I m' e s), ex⟩) else nx env S1) (ex env)) :
    Hold (∃ n, whileN (fun env S Q => wpE P (run P T j) (runM P T j) e env S Q (ex env)) (wpSs P (run P T j) (runM P T j) b) ⟨nx, rt, bk, ct, ex⟩ n env S) :=
  hold ⟨m + 1, while_go (K := ⟨nx, rt, bk, ct, ex⟩) (Tt := fun env S Q => wpE P (run P T j) (runM P T j) e env S Q (ex env)) I (fun env S Q Q' hq h => wpE_mono (runs_mono P T j).1 (runs_mono P T j).2 e hq (fun _ _ z => z) h) step m env S h0⟩
theorem comp_go {guard : Store → Prop} {G : D → Option Env} {c v : Ex} {p : Addr} {Q : Store → Prop} {items : List D} (I : Nat → List D → Store → Prop) (hg : ∀ k acc S, I k acc S → guard S) (hp : ∀ k acc S, I k acc S → S p = some (.lst acc))
    (step : ∀ k d acc S, items[k]? = some d → I k acc S → ∃ env, G d = some env ∧ wpE P (run P T j) (runM P T j) c env S (fun x S3 => ∃ c, x = .bl c ∧ if c = true then
      wpE P (run P T j) (runM P T j) v env S3 (fun y S4 => Inn (S4 p = some (.lst acc) ∧ acc.length < sizeLine ∧ ∀ S5, Kp [p] S4 S5 → S5 p = some (.lst (acc ++ [y])) → I (k + 1) (acc ++ [y]) S5)) noX else Inn (I (k + 1) acc S3)) noX)
    (fin : ∀ acc S, I items.length acc S → Q S) : ∀ (m k : Nat) (acc : List D) (S : Store), k + m = items.length → I k acc S →
      compLoop guard G (fun env S Q => wpE P (run P T j) (runM P T j) c env S Q noX) (fun env S Q => wpE P (run P T j) (runM P T j) v env S Q noX) p Q (items.drop k) S
  | 0, k, acc, S, e, h => by
    rw [List.drop_eq_nil_of_le (by omega)]
    have e2 : k = items.length := by omega
    subst e2
    exact ⟨hg _ _ _ h, fin _ _ h⟩
  | m + 1, k, acc, S, e, h => by
    have hk : k < items.length := by omega
    have ed : items[k]? = some items[k] := List.getElem?_eq_getElem hk
    rw [drop_get ed]
    obtain ⟨env, e2, h2⟩ := step k _ acc S ed h
    refine ⟨hg _ _ _ h, env, e2, wpE_mono (runs_mono P T j).1 (runs_mono P T j).2 c (fun x S3 ⟨c, ec, z⟩ => ⟨c, ec, ?_⟩) (fun _ _ z => z) h2⟩
    cases c with
    | true => exact wpE_mono (runs_mono P T j).1 (runs_mono P T j).2 v (fun y S4 ⟨_, z1, z2, z3⟩ => ⟨acc, z1, z2, comp_go I hg hp step fin m (k + 1) _ _ (by omega) (z3 _ (Kp.of_put (is_of z1) rfl) (of_upd rfl))⟩) (fun _ _ z => z) z
    | false => exact comp_go I hg hp step fin m (k + 1) acc S3 (by omega) z.out
/-- a comprehension: I at each place, over what is made so far -/
theorem w_comp {guard : Store → Prop} {G : D → Option Env} {c v : Ex} {p : Addr} {Q : Store → Prop} {items : List D} {S : Store} (I : Nat → List D → Store → Prop) (h0 : I 0 [] S) (hg : ∀ k acc S, I k acc S → guard S) (hp : ∀ k acc S, I k acc S → S p = some (.lst acc))
    (step : ∀ k d acc S, items[k]? = some d → I k acc S → ∃ env, G d = some env ∧ wpE P (run P T j) (runM P T j) c env S (fun x S3 => ∃ c, x = .bl c ∧ if c = true then
      wpE P (run P T j) (runM P T j) v env S3 (fun y S4 => Inn (S4 p = some (.lst acc) ∧ acc.length < sizeLine ∧ ∀ S5, Kp [p] S4 S5 → S5 p = some (.lst (acc ++ [y])) → I (k + 1) (acc ++ [y]) S5)) noX else Inn (I (k + 1) acc S3)) noX)
    (fin : ∀ acc S, I items.length acc S → Q S) :
      Hold (compLoop guard G (fun env S Q => wpE P (run P T j) (runM P T j) c env S Q noX) (fun env S Q => wpE P (run P T j) (runM P T j) v env S Q noX) p Q items S) :=
  hold (comp_go I hg hp step fin items.length 0 [] _ (by omega) h0)
end
theorem atI_ex {xs : List D} {i : Int} (h0 : 0 ≤ i) (h1 : i < xs.length) : ∃ d, d ∈ xs ∧ atI xs i = some d := by
  obtain ⟨n, rfl⟩ : ∃ n : Nat, i = n := ⟨i.toNat, by omega⟩
  have hn : n < xs.length := by omega
  exact ⟨xs[n], List.getElem_mem hn, atI_nat (List.getElem?_eq_getElem hn)⟩
theorem w_ixm {S : Store} {a : Addr} {xs : List D} {i : Int} {Q : D → Prop} {Z : Prop} (G : D → Prop) (h : S a = some (.lst xs)) (h0 : 0 ≤ i) (h1 : i < xs.length) (g : ∀ d ∈ xs, G d) (q : ∀ d, G d → Q d) :
    (∃ xs i' d, S a = some (.lst xs) ∧ D.int i = .int i' ∧ atI xs i' = some d ∧ Q d) ∨ Z := by
  obtain ⟨d, hd, e⟩ := atI_ex h0 h1
  exact .inl ⟨xs, i, d, h, rfl, e, q d (g d hd)⟩
theorem w_ixt {xs : List D} {i : Int} {Q : D → Prop} (G : D → Prop) (h0 : 0 ≤ i) (h1 : i < xs.length) (g : ∀ d ∈ xs, G d) (q : ∀ d, G d → Q d) :
    ∃ i' d, D.int i = .int i' ∧ atI xs i' = some d ∧ Q d := by
  obtain ⟨d, hd, e⟩ := atI_ex h0 h1
  exact ⟨i, d, rfl, e, q d (g d hd)⟩
theorem atI_hd {α : Type} {x : α} {r : List α} : atI (x :: r) 0 = some x := atI_nat (j := 0) rfl
theorem atI_mem {xs : List D} {i : Int} {d : D} (h : atI xs i = some d) : d ∈ xs := by
  obtain ⟨j, _, e, _⟩ := atI_get h
  exact List.mem_of_getElem? e
theorem cut_len {α : Type} {xs : List α} {lo hi : Option Int} : (cutL xs lo hi).length ≤ xs.length := by
  unfold cutL
  rw [List.length_take, List.length_drop]
  omega
theorem cut_sub {α : Type} {xs : List α} {lo hi : Option Int} {x : α} (h : x ∈ cutL xs lo hi) : x ∈ xs := List.mem_of_mem_drop (List.mem_of_mem_take h)
/-! ### texts by their signs -/
def tx (l : List Nat) : Str := ⟨l.toArray⟩
theorem tx_num (n : Nat) : ((toString ((n : Nat) : Int) : String) : Str) = tx (TL.numL n) := SX.num_S n
theorem tx_list (l : List Nat) : (tx l).cps.toList = l := rfl
theorem tx_one (c : Nat) : (⟨#[c]⟩ : Str) = tx [c] := rfl
theorem tx_len (l : List Nat) : (tx l).length = l.length := SX.S_len l
theorem tx_cat (a b : List Nat) : tx a ++ tx b = tx (a ++ b) := SX.S_cat a b
theorem eqv_str (s t : Str) : PyData.eqv (.str s) (.str t) = decide (s = t) := by
  show (s == t) = _
  by_cases h : s = t
  · rw [h, decide_eq_true rfl]; exact beq_self_eq_true t
  · rw [decide_eq_false h]; exact beq_eq_false_iff_ne.mpr h
theorem tx_inj {a b : List Nat} : tx a = tx b ↔ a = b := ⟨fun h => SX.S_inj h, fun h => by rw [h]⟩
theorem tx_in (a : List Nat) (c : Nat) : (!(Builtin.Str.occurrences (tx a) (tx [c]) 0 (tx a).length 1).isEmpty) = decide (c ∈ a) := SX.in_one a c
theorem tx_split {a b : List Nat} (hb : b ≠ []) (hk : b.all (· < 256) = true) : Txt.split (tx a) (tx b) = (TL.spl b 0 [] a).map tx := SX.split_S hb hk
theorem tx_join (a : List Nat) (ys : List (List Nat)) : Txt.join (tx a) (ys.map tx) = tx (TL.joinL a ys) := SX.join_S a ys
theorem tx_int {a : List Nat} (h : a.all (fun c => decide (48 ≤ c) && decide (c ≤ 57)) = true) (hne : a ≠ []) (hl : a.length ≤ 4300) : intText? (tx a) = some ((NumText.digitsVal a : Nat) : Int) := SX.int_S h hne hl
theorem tx_chars (l : List Nat) : ((tx l).cps.toList.map fun c => D.str ⟨#[c]⟩) = l.map fun c => D.str (tx [c]) := rfl
theorem log2_ok {n : Nat} (h : n < 10 ^ 40) : ((n : Nat) : Int).natAbs.log2 < 1920 := by
  show n.log2 < 1920
  by_cases h0 : n = 0
  · subst h0; decide
  · exact (Nat.log2_lt h0).mpr (Nat.lt_trans h (by decide))
theorem tx_cut (l : List Nat) (lo hi : Option Int) : L2.cutS (tx l) lo hi = tx (cutL l lo hi) := by
  unfold L2.cutS cutL
  rw [tx_len]
  rfl
theorem strs_tx : ∀ L : List (List Nat), strsOf (L.map (D.str ∘ tx)) = some (L.map tx)
  | [] => rfl
  | l :: L => by
    show (strsOf (L.map (D.str ∘ tx))).map (tx l :: ·) = _
    rw [strs_tx L]
    rfl
theorem w_ixi {xs : List D} {i : Int} {Q : D → Prop} (h0 : 0 ≤ i) (h1 : i < xs.length) (q : ∀ d, xs[i.toNat]? = some d → Q d) :
    ∃ i' d, D.int i = .int i' ∧ atI xs i' = some d ∧ Q d := by
  obtain ⟨n, rfl⟩ : ∃ n : Nat, i = n := ⟨i.toNat, by omega⟩
  have hn : n < xs.length := by omega
  exact ⟨_, xs[n], rfl, atI_nat (List.getElem?_eq_getElem hn), q _ (List.getElem?_eq_getElem hn)⟩
theorem w_ixs {l : List Nat} {i : Int} {Q : Nat → Prop} (hl : l.length ≤ 1000000) (h0 : 0 ≤ i) (h1 : i < l.length) (q : ∀ c, c ∈ l → Q c) :
    ∃ i' c, D.int i = .int i' ∧ (tx l).length ≤ sizeLine ∧ atI (tx l).cps.toList i' = some c ∧ Q c := by
  obtain ⟨n, rfl⟩ : ∃ n : Nat, i = n := ⟨i.toNat, by omega⟩
  have hn : n < l.length := by omega
  exact ⟨_, l[n], rfl, by rw [tx_len]; exact lenOk hl, atI_nat (List.getElem?_eq_getElem hn), q _ (List.getElem_mem hn)⟩
theorem w_asM {S : Store} {a : Addr} {L : List (List Nat)} {i : Nat} {t : List Nat} {Q : Store → Prop} {Z : Prop} (h : S a = some (.lst (L.map (D.str ∘ tx)))) (hi : i < L.length) (q : ∀ S', Kp [a] S S' → S' a = some (.lst ((L.set i t).map (D.str ∘ tx))) → Q S') :
    (∃ p xs k j, D.ref a = .ref p ∧ S p = some (.lst xs) ∧ D.int i = .int k ∧ ixN xs.length k = some j ∧ Q (S.upd p (.lst (xs.set j (.str (tx t)))))) ∨ Z := by
  refine w_asSl (j := i) h ?_ ?_ q
  · unfold ixN
    rw [List.length_map, if_pos (by omega), if_pos (by omega)]
    simp
  · rw [List.map_set]
    rfl
/-! ### lists as plain data -/
theorem pds {f : D → PyData} {m : Nat} {S : Store} : ∀ (xs : List D) (n : Nat), (∀ x ∈ xs, ∀ k, m ≤ k → toPD k S x = some (f x)) → m + xs.length ≤ n → toPDs n S xs = some (xs.map f)
  | [], n, _, _ => by cases n <;> rfl
  | x :: xs, 0, _, h => by rw [List.length_cons] at h; omega
  | x :: xs, n + 1, hx, h => by
    rw [List.length_cons] at h
    have e1 := hx x List.mem_cons_self n (by omega)
    have e2 := pds xs n (fun y hy => hx y (List.mem_cons_of_mem _ hy)) (by omega)
    simp only [toPDs, e1, e2]
    rfl
theorem pd_lst {f : D → PyData} {m n : Nat} {S : Store} {a : Addr} {xs : List D} (h : S a = some (.lst xs)) (hx : ∀ x ∈ xs, ∀ k, m ≤ k → toPD k S x = some (f x)) (hn : m + xs.length + 1 ≤ n) : toPD n S (.ref a) = some (.list (xs.map f)) := by
  cases n with
  | zero => omega
  | succ n =>
    simp only [toPD, h, pds xs n hx (by omega)]
    rfl
theorem lay_all : ∀ {ps : List PyData}, (∀ p ∈ ps, p.canLay0 = true ∧ p.depth ≤ 8) → PyData.canLayAll0 ps = true ∧ PyData.depthAll ps ≤ 8
  | [], _ => ⟨rfl, Nat.zero_le _⟩
  | p :: ps, h => by
    obtain ⟨a, b⟩ := h p List.mem_cons_self
    obtain ⟨c, d⟩ := lay_all (ps := ps) fun q hq => h q (List.mem_cons_of_mem _ hq)
    refine ⟨?_, ?_⟩
    · simp only [PyData.canLayAll0, a, c]
      rfl
    · simp only [PyData.depthAll]
      omega
theorem shaped_lst {ps : List PyData} (h : ∀ p ∈ ps, p.canLay0 = true ∧ p.depth ≤ 8) : SeqAt.shaped (.list ps) = true := by
  obtain ⟨a, b⟩ := lay_all h
  unfold SeqAt.shaped
  rw [Bool.and_eq_true, decide_eq_true_eq]
  refine ⟨?_, ?_⟩
  · simp only [PyData.canLay0, a]
  · simp only [PyData.depth]
    omega
/-- a plain item's data -/
def flatP : D → PyData
  | .int i => .int i
  | .bl b => .bool b
  | .str s => .str s
  | _ => .none
def isFlat : D → Bool
  | .int _ => true
  | .bl _ => true
  | .str s => (PyData.str s).canLay0
  | .non => true
  | _ => false
theorem flat_pd {x : D} (h : isFlat x = true) {S : Store} {k : Nat} (hk : 1 ≤ k) : toPD k S x = some (flatP x) := by
  cases k with
  | zero => omega
  | succ k => cases x <;> first | rfl | cases h
theorem flat_lay {x : D} (h : isFlat x = true) : (flatP x).canLay0 = true ∧ (flatP x).depth ≤ 8 := by
  cases x <;> first | exact ⟨rfl, Nat.zero_le _⟩ | exact ⟨h, Nat.zero_le _⟩
theorem eqv_nil (ps : List PyData) : PyData.eqv (.list ps) (.list []) = ps.isEmpty := by
  cases ps <;> simp [PyData.eqv, PyData.eqvAll]
/-- a list of plain items against a new, empty one -/
theorem w_nil {S : Store} {a b : Addr} {xs : List D} {Q : PyData → PyData → Prop} (ha : S a = some (.lst xs)) (hx : ∀ x ∈ xs, isFlat x = true) (hb : S b = some (.lst [])) (q : Q (.list (xs.map flatP)) (.list [])) :
    ∃ n p q, toPD n S (.ref a) = some p ∧ toPD n S (.ref b) = some q ∧ SeqAt.shaped p = true ∧ SeqAt.shaped q = true ∧ Q p q :=
  ⟨1 + xs.length + 1, _, _, pd_lst ha (fun x h k hk => flat_pd (hx x h) hk) (Nat.le_refl _), pd_lst (f := flatP) (m := 1) hb (fun x h => by cases h) (by rw [List.length_nil]; omega), shaped_lst (fun p hp => by
    obtain ⟨x, hm, e⟩ := List.mem_map.mp hp
    rw [← e]
    exact flat_lay (hx x hm)), rfl, q⟩
/-! ### words in tuples of words -/
theorem in_tx (w : List Nat) : ∀ L : List (List Nat), inF (.str (tx w)) (L.map (D.str ∘ tx)) = decide (w ∈ L)
  | [] => by rw [decide_eq_false List.not_mem_nil]; rfl
  | l :: L => by
    have ih := in_tx w L
    unfold inF at ih ⊢
    rw [List.map_cons, List.any_cons, ih]
    show ((tx l == tx w) || decide (w ∈ L)) = _
    by_cases h : l = w
    · rw [h, beq_self_eq_true, Bool.true_or, decide_eq_true List.mem_cons_self]
    · rw [beq_eq_false_iff_ne.mpr (fun z => h (tx_inj.mp z)), Bool.false_or]
      by_cases m : w ∈ L
      · rw [decide_eq_true m, decide_eq_true (List.mem_cons_of_mem _ m)]
      · rw [decide_eq_false m, decide_eq_false (fun z => by
          rcases List.mem_cons.mp z with z | z
          · exact h z.symm
          · exact m z)]
theorem flat_tx (L : List (List Nat)) : ∀ z ∈ L.map (D.str ∘ tx), flatD z = true := fun z hz => by
  obtain ⟨l, _, e⟩ := List.mem_map.mp hz
  rw [← e]
  rfl
theorem kd_lst {S : Store} {a : Addr} {xs : List D} (h : S a = some (.lst xs)) : kdOf S (.ref a) = some .lst := by
  simp only [kdOf, Store.rd, h]
  rfl
end SW
/-! SW, part Q: separate parts of a store. -/
namespace SW
open PySem L2
abbrev HP := Store → Prop
def Le (h S : Store) : Prop := ∀ a c, h a = some c → S a = some c
def Dj (h h' : Store) : Prop := ∀ a, h a = none ∨ h' a = none
/-- the store has these parts, no two of which share a cell -/
def Sep : List HP → HP
  | [], _ => True
  | A :: L, S => ∃ h h', Dj h h' ∧ Le h S ∧ Le h' S ∧ A h ∧ Sep L h'
def Cl (a : Addr) (c : Cell) : HP := fun h => h a = some c
abbrev Ls (a : Addr) (xs : List D) : HP := Cl a (.lst xs)
abbrev Dc (a : Addr) (xs : List (D × D)) : HP := Cl a (.dic xs)
theorem Le.refl {h : Store} : Le h h := fun _ _ e => e
theorem Le.trans {a b c : Store} (x : Le a b) (y : Le b c) : Le a c := fun p d e => y p d (x p d e)
theorem Dj.symm {h h' : Store} (d : Dj h h') : Dj h' h := fun a => (d a).symm
theorem Dj.le {h h' k k' : Store} (d : Dj h h') (l : Le k h) (l' : Le k' h') : Dj k k' := fun a => by
  rcases d a with z | z
  · left
    cases q : k a with
    | none => rfl
    | some c => rw [l a c q] at z; cases z
  · right
    cases q : k' a with
    | none => rfl
    | some c => rw [l' a c q] at z; cases z
theorem Sep.le {L : List HP} {S S' : Store} (h : Sep L S) (l : Le S S') : Sep L S' := by
  cases L with
  | nil => trivial
  | cons A L =>
    obtain ⟨h1, h2, d, l1, l2, a, r⟩ := h
    exact ⟨h1, h2, d, l1.trans l, l2.trans l, a, r⟩
theorem Sep.nil {S : Store} : Sep [] S := trivial
theorem Sep.tail {A : HP} {L : List HP} {S : Store} (h : Sep (A :: L) S) : Sep L S := by
  obtain ⟨h1, h2, _, _, l2, _, r⟩ := h
  exact r.le l2
/-- two stores put together: the first one goes first -/
def mix (h k : Store) : Store := fun a => match h a with
  | some c => some c
  | none => k a
theorem mix_l {h k : Store} : Le h (mix h k) := fun a c e => by simp only [mix, e]
theorem mix_r {h k : Store} (d : Dj h k) : Le k (mix h k) := fun a c e => by
  rcases d a with z | z
  · simp only [mix, z, e]
  · rw [z] at e; cases e
theorem mix_le {h k S : Store} (l : Le h S) (l' : Le k S) : Le (mix h k) S := fun a c e => by
  unfold mix at e
  cases q : h a with
  | none => rw [q] at e; exact l' a c e
  | some d => rw [q] at e; cases e; exact l a _ q
theorem mix_dj {h k j : Store} (d : Dj h j) (d' : Dj k j) : Dj (mix h k) j := fun a => by
  rcases d a with z | z
  · rcases d' a with y | y
    · left; simp only [mix, z, y]
    · exact .inr y
  · exact .inr z
theorem Sep.swap {A B : HP} {L : List HP} {S : Store} (h : Sep (A :: B :: L) S) : Sep (B :: A :: L) S := by
  obtain ⟨h1, h2, d, l1, l2, a, k1, k2, e, m1, m2, b, r⟩ := h
  have d1 : Dj h1 k2 := d.le .refl m2
  have d2 : Dj h1 k1 := d.le .refl m1
  exact ⟨k1, mix h1 k2, (mix_dj d2 e.symm).symm, m1.trans l2, mix_le l1 (m2.trans l2), b, h1, k2, d1, mix_l, mix_r d1, a, r⟩
theorem Sep.under {A : HP} {L L' : List HP} {S : Store} (f : ∀ S, Sep L S → Sep L' S) (h : Sep (A :: L) S) : Sep (A :: L') S := by
  obtain ⟨h1, h2, d, l1, l2, a, r⟩ := h
  exact ⟨h1, h2, d, l1, l2, a, f _ r⟩
theorem Sep.perm {L L' : List HP} (p : L.Perm L') : ∀ {S : Store}, Sep L S → Sep L' S := by
  induction p with
  | nil => exact fun h => h
  | cons A p ih => exact fun h => h.under fun _ => ih
  | swap A B L => exact fun h => h.swap
  | trans _ _ ih1 ih2 => exact fun h => ih2 (ih1 h)
theorem Sep.imp {A B : HP} {L : List HP} {S : Store} (f : ∀ h, A h → B h) (h : Sep (A :: L) S) : Sep (B :: L) S := by
  obtain ⟨h1, h2, d, l1, l2, a, r⟩ := h
  exact ⟨h1, h2, d, l1, l2, f _ a, r⟩
theorem Sep.ex {α : Sort _} {A : α → HP} {L : List HP} {S : Store} (h : Sep ((fun s => ∃ x, A x s) :: L) S) : ∃ x, Sep (A x :: L) S := by
  obtain ⟨h1, h2, d, l1, l2, ⟨x, a⟩, r⟩ := h
  exact ⟨x, h1, h2, d, l1, l2, a, r⟩
theorem Sep.pure {p : Prop} {A : HP} {L : List HP} {S : Store} (h : Sep ((fun s => p ∧ A s) :: L) S) : p ∧ Sep (A :: L) S := by
  obtain ⟨h1, h2, d, l1, l2, ⟨x, a⟩, r⟩ := h
  exact ⟨x, h1, h2, d, l1, l2, a, r⟩
theorem Sep.into {A : HP} {L : List HP} {S : Store} {B : HP} (f : ∀ h, A h → B h) (h : Sep (A :: L) S) : Sep (B :: L) S := h.imp f
/-- a part that is itself of parts -/
theorem Sep.flat {L1 L2 : List HP} {S : Store} (h : Sep (Sep L1 :: L2) S) : Sep (L1 ++ L2) S := by
  induction L1 generalizing S with
  | nil => exact h.tail
  | cons A L1 ih =>
    obtain ⟨h1, h2, d, l1, l2, ⟨k1, k2, e, m1, m2, a, r⟩, t⟩ := h
    have d1 : Dj k1 h2 := d.le m1 .refl
    have d2 : Dj k2 h2 := d.le m2 .refl
    have q : Sep (L1 ++ L2) (mix k2 h2) := ih ⟨k2, h2, d2, mix_l, mix_r d2, r, t⟩
    exact ⟨k1, mix k2 h2, (mix_dj e.symm d1.symm).symm, m1.trans l1, mix_le (m2.trans l1) l2, a, q⟩
theorem Sep.fold {L1 L2 : List HP} {S : Store} (h : Sep (L1 ++ L2) S) : Sep (Sep L1 :: L2) S := by
  induction L1 generalizing S with
  | nil => exact ⟨fun _ => none, S, fun _ => .inl rfl, fun _ _ e => (by cases e), .refl, trivial, h⟩
  | cons A L1 ih =>
    obtain ⟨h1, h2, d, l1, l2, a, r⟩ := h
    obtain ⟨k1, k2, e, m1, m2, x, y⟩ := ih r
    have d1 : Dj h1 k1 := d.le .refl m1
    have d2 : Dj h1 k2 := d.le .refl m2
    exact ⟨mix h1 k1, k2, mix_dj d2 e, mix_le l1 (m1.trans l2), m2.trans l2, ⟨h1, k1, d1, mix_l, mix_r d1, a, x⟩, y⟩
theorem Sep.get {a : Addr} {c : Cell} {L : List HP} {S : Store} (h : Sep (Cl a c :: L) S) : S a = some c := by
  obtain ⟨h1, h2, d, l1, l2, e, r⟩ := h
  exact l1 _ _ e
theorem Sep.get2 {A : HP} {a : Addr} {c : Cell} {L : List HP} {S : Store} (h : Sep L S) (m : Cl a c ∈ L) : S a = some c := by
  induction L generalizing S with
  | nil => cases m
  | cons A L ih =>
    rcases List.mem_cons.mp m with e | m
    · rw [← e] at h
      exact h.get
    · exact ih h.tail m
theorem Sep.gets {a : Addr} {c : Cell} {L : List HP} {S : Store} (h : Sep L S) (m : Cl a c ∈ L) : S a = some c := by
  induction L generalizing S with
  | nil => cases m
  | cons A L ih =>
    rcases List.mem_cons.mp m with e | m
    · rw [← e] at h
      exact h.get
    · exact ih h.tail m
theorem Sep.new {L : List HP} {S : Store} {p : Addr} {c : Cell} (h : Sep L S) (hp : S p = none) : Sep (Cl p c :: L) (S.upd p c) := by
  refine ⟨fun a => if a = p then some c else none, S, fun a => ?_, fun a d e => ?_, fun a d e => ?_, ?_, h⟩
  · by_cases q : a = p
    · right; rw [q]; exact hp
    · left; simp only [q, if_false]
  · by_cases q : a = p
    · simp only [q, if_true] at e
      rw [q, Store.upd_same]; exact e
    · simp only [q, if_false] at e; cases e
  · rw [Store.upd_ne (fun z => by rw [z, hp] at e; cases e)]; exact e
  · show (if p = p then some c else none) = some c
    rw [if_pos rfl]
theorem Sep.put {L : List HP} {S : Store} {a : Addr} {c c' : Cell} (h : Sep (Cl a c :: L) S) : Sep (Cl a c' :: L) (S.upd a c') := by
  obtain ⟨h1, h2, d, l1, l2, e, r⟩ := h
  have e : h1 a = some c := e
  have n2 : h2 a = none := by
    rcases d a with z | z
    · rw [z] at e; cases e
    · exact z
  refine ⟨fun b => if b = a then some c' else none, h2, fun b => ?_, fun b d e => ?_, fun b d e => ?_, ?_, r⟩
  · by_cases q : b = a
    · right; rw [q]; exact n2
    · left; simp only [q, if_false]
  · by_cases q : b = a
    · simp only [q, if_true] at e
      rw [q, Store.upd_same]; exact e
    · simp only [q, if_false] at e; cases e
  · rw [Store.upd_ne (fun z => by rw [z, n2] at e; cases e)]; exact l2 _ _ e
  · show (if a = a then some c' else none) = some c'
    rw [if_pos rfl]
theorem set_perm {A B : HP} : ∀ {L : List HP} {i : Nat}, L[i]? = some A → L.Perm (A :: L.eraseIdx i) ∧ (B :: L.eraseIdx i).Perm (L.set i B)
  | [], _, e => by cases e
  | C :: L, 0, e => by cases e; exact ⟨.refl _, .refl _⟩
  | C :: L, i + 1, e => by
    obtain ⟨h1, h2⟩ := set_perm (A := A) (B := B) (L := L) (i := i) e
    exact ⟨(h1.cons C).trans (.swap _ _ _), (List.Perm.swap _ _ _).trans (h2.cons C)⟩
/-- a cell of the list is changed -/
theorem Sep.puts {S : Store} {a : Addr} {c c' : Cell} {L : List HP} (i : Nat) (h : Sep L S) (e : L[i]? = some (Cl a c)) : Sep (L.set i (Cl a c')) (S.upd a c') := by
  obtain ⟨h1, h2⟩ := set_perm (B := Cl a c') e
  exact ((h.perm h1).put (c' := c')).perm h2
/-! Kp and parts -/
theorem Sep.kp {L : List HP} {S S' : Store} (h : Sep L S) (k : Kp [] S S') : Sep L S' := h.le fun a c e => k.keep a c nm0 e
theorem Sep.kp1 {L : List HP} {S S' : Store} {a : Addr} {c c' : Cell} (h : Sep (Cl a c :: L) S) (k : Kp [a] S S') (e' : S' a = some c') : Sep (Cl a c' :: L) S' := by
  refine (h.put (c' := c')).le fun b d e => ?_
  by_cases q : b = a
  · rw [q, Store.upd_same] at e
    rw [q, e', e]
  · rw [Store.upd_ne q] at e
    exact k.keep b d (nm1 q nm0) e
/-! picking -/
theorem up1 {A B : HP} {L : List HP} : (B :: A :: L).Perm (A :: B :: L) := .swap _ _ _
theorem pk0 {A : HP} {L : List HP} : (A :: L).Perm (A :: L) := .refl _
theorem pkS {A B : HP} {L L' : List HP} (h : L.Perm (A :: L')) : (B :: L).Perm (A :: B :: L') := (h.cons B).trans (.swap _ _ _)
theorem pkT {A : HP} {L L1 L2 : List HP} (h : L.Perm (A :: L1)) (h2 : L1.Perm L2) : L.Perm (A :: L2) := h.trans (h2.cons A)
/-- A stands in L, R is the rest -/
inductive Pick (A : HP) : List HP → List HP → Prop
  | here {L : List HP} : Pick A (A :: L) L
  | there {B : HP} {L R : List HP} : Pick A L R → Pick A (B :: L) (B :: R)
theorem Pick.perm {A : HP} {L R : List HP} (h : Pick A L R) : L.Perm (A :: R) := by
  induction h with
  | here => exact .refl _
  | there _ ih => exact pkS ih
theorem Sep.c1 {A : HP} {L R : List HP} {S : Store} (h : Sep L S) (p : Pick A L R) : Sep (A :: R) S := h.perm p.perm
theorem Sep.c2 {A B : HP} {L R R' : List HP} {S : Store} (h : Sep L S) (p : Pick A L R) (q : Pick B R R') : Sep (A :: B :: R') S := h.perm (p.perm.trans (q.perm.cons A))
theorem Sep.c3 {A B C : HP} {L R R' R2 : List HP} {S : Store} (h : Sep L S) (p : Pick A L R) (q : Pick B R R') (r : Pick C R' R2) : Sep (A :: B :: C :: R2) S := h.perm (p.perm.trans ((q.perm.trans (r.perm.cons B)).cons A))
theorem Sep.c4 {A B C E : HP} {L R R' R2 R3 : List HP} {S : Store} (h : Sep L S) (p : Pick A L R) (q : Pick B R R') (r : Pick C R' R2) (s : Pick E R2 R3) : Sep (A :: B :: C :: E :: R3) S := h.perm (p.perm.trans ((q.perm.trans ((r.perm.trans (s.perm.cons C)).cons B)).cons A))
/-- a cell of L is changed: L' -/
inductive Chd (a : Addr) (c c' : Cell) : List HP → List HP → Prop
  | here {L : List HP} : Chd a c c' (Cl a c :: L) (Cl a c' :: L)
  | there {B : HP} {L L' : List HP} : Chd a c c' L L' → Chd a c c' (B :: L) (B :: L')
theorem Sep.chg {a : Addr} {c c' : Cell} {L L' : List HP} {S : Store} (h : Sep L S) (q : Chd a c c' L L') : Sep L' (S.upd a c') := by
  have z : ∃ R, L.Perm (Cl a c :: R) ∧ (Cl a c' :: R).Perm L' := by
    induction q with
    | here => exact ⟨_, .refl _, .refl _⟩
    | there _ ih =>
      obtain ⟨R, h1, h2⟩ := ih h.tail
      exact ⟨_, pkS h1, (List.Perm.swap _ _ _).trans (h2.cons _)⟩
  obtain ⟨R, h1, h2⟩ := z
  exact ((h.perm h1).put (c' := c')).perm h2
theorem Sep.chd_eq {a : Addr} {c c' : Cell} {L L' : List HP} {S S' : Store} (h : Sep L S) (e : S.upd a c' = S') (q : Chd a c c' L L') : Sep L' S' := e ▸ h.chg q
theorem Sep.new_eq {L : List HP} {S S' : Store} {p : Addr} {c : Cell} (h : Sep L S) (hp : S p = none) (e : S.upd p c = S') : Sep (Cl p c :: L) S' := e ▸ h.new hp
/-- what has L has L' -/
def Sb (L' L : List HP) : Prop := ∀ S, Sep L S → Sep L' S
theorem Sb.refl {L : List HP} : Sb L L := fun _ h => h
theorem Sb.nil {L : List HP} : Sb [] L := fun _ _ => trivial
theorem Sb.drop {A : HP} {L L' : List HP} (h : Sb L' L) : Sb L' (A :: L) := fun S z => h S z.tail
theorem Sb.cons {A : HP} {L R T : List HP} (p : Pick A L R) (h : Sb T R) : Sb (A :: T) L := fun S z => Sep.under (fun S => h S) (z.c1 p)
theorem Sep.sb {L L' : List HP} {S : Store} (h : Sep L S) (s : Sb L' L) : Sep L' S := s S h
theorem Sep.kpw {L L' : List HP} {S S' : Store} {a : Addr} {c c' : Cell} (h : Sep L S) (k : Kp [a] S S') (e' : S' a = some c') (q : Chd a c c' L L') : Sep L' S' := by
  refine (h.chg q).le fun b d e => ?_
  by_cases z : b = a
  · rw [z, Store.upd_same] at e
    rw [z, e', e]
  · rw [Store.upd_ne z] at e
    exact k.keep b d (nm1 z nm0) e
/-! ### plain data -/
mutual
def pdD : D → PyData
  | .int i => .int i
  | .bl b => .bool b
  | .str s => .str s
  | .tup xs => .tuple (pdDs xs)
  | _ => .none
def pdDs : List D → List PyData
  | [] => []
  | x :: xs => pdD x :: pdDs xs
end
mutual
/-- plain: numbers, texts, None, tuples of these, to a depth; no truths -/
def plD : Nat → D → Bool
  | _, .int _ => true
  | _, .non => true
  | _, .str s => (PyData.str s).canLay0
  | n + 1, .tup xs => plDs n xs
  | _, _ => false
def plDs : Nat → List D → Bool
  | _, [] => true
  | n, x :: xs => plD n x && plDs n xs
end
mutual
theorem pl_eqv : ∀ (x : D) (n m : Nat) (y : D), plD n x = true → plD m y = true → (PyData.eqv (pdD x) (pdD y) = true ↔ x = y)
  | .int i, n, m, y, h, k => by
    cases y <;> simp only [plD, pdD, PyData.eqv, beq_iff_eq, D.int.injEq, reduceCtorEq, Bool.false_eq_true] at k ⊢
  | .non, n, m, y, h, k => by
    cases y <;> simp only [plD, pdD, PyData.eqv, reduceCtorEq, Bool.false_eq_true] at k ⊢
  | .str s, n, m, y, h, k => by
    cases y <;> simp only [plD, pdD, PyData.eqv, beq_iff_eq, D.str.injEq, reduceCtorEq, Bool.false_eq_true] at k ⊢
  | .tup xs, 0, m, y, h, k => by simp only [plD, Bool.false_eq_true] at h
  | .tup xs, n + 1, m, y, h, k => by
    cases y with
    | tup ys =>
      cases m with
      | zero => simp only [plD, Bool.false_eq_true] at k
      | succ m =>
        simp only [plD] at h k
        simp only [pdD, PyData.eqv, D.tup.injEq]
        exact pls_eqv xs n m ys h k
    | bl b => cases m <;> simp only [plD, Bool.false_eq_true] at k
    | ref b => cases m <;> simp only [plD, Bool.false_eq_true] at k
    | rl b => cases m <;> simp only [plD, Bool.false_eq_true] at k
    | _ => simp only [pdD, PyData.eqv, reduceCtorEq, Bool.false_eq_true]
  | .bl b, n, m, y, h, k => by cases n <;> simp only [plD, Bool.false_eq_true] at h
  | .ref b, n, m, y, h, k => by cases n <;> simp only [plD, Bool.false_eq_true] at h
  | .rl b, n, m, y, h, k => by cases n <;> simp only [plD, Bool.false_eq_true] at h
theorem pls_eqv : ∀ (xs : List D) (n m : Nat) (ys : List D), plDs n xs = true → plDs m ys = true → (PyData.eqvAll (pdDs xs) (pdDs ys) = true ↔ xs = ys)
  | [], n, m, ys, h, k => by
    cases ys <;> simp only [pdDs, PyData.eqvAll, reduceCtorEq, Bool.false_eq_true]
  | x :: xs, n, m, ys, h, k => by
    cases ys with
    | nil => simp only [pdDs, PyData.eqvAll, reduceCtorEq, Bool.false_eq_true]
    | cons y ys =>
      simp only [plDs, Bool.and_eq_true] at h k
      simp only [pdDs, PyData.eqvAll, Bool.and_eq_true, List.cons.injEq]
      rw [pl_eqv x n m y h.1 k.1, pls_eqv xs n m ys h.2 k.2]
end
noncomputable instance decD : DecidableEq D := fun _ _ => Classical.propDecidable _
theorem eqv_pl {x y : D} {n m : Nat} (h : plD n x = true) (k : plD m y = true) : PyData.eqv (pdD x) (pdD y) = decide (x = y) := by
  rw [Bool.eq_iff_iff, decide_eq_true_eq]
  exact pl_eqv x n m y h k
theorem eqvs_pl {x y : List D} {n m : Nat} (h : plDs n x = true) (k : plDs m y = true) : PyData.eqvAll (pdDs x) (pdDs y) = decide (x = y) := by
  rw [Bool.eq_iff_iff, decide_eq_true_eq]
  exact pls_eqv x n m y h k
mutual
theorem pl_lay : ∀ (x : D) (n : Nat), plD n x = true → (pdD x).canLay0 = true ∧ (pdD x).depth ≤ n
  | .int i, n, h => ⟨rfl, Nat.zero_le _⟩
  | .non, n, h => ⟨rfl, Nat.zero_le _⟩
  | .str s, n, h => by
    refine ⟨?_, Nat.zero_le _⟩
    cases n <;> exact h
  | .tup xs, 0, h => by simp only [plD, Bool.false_eq_true] at h
  | .tup xs, n + 1, h => by
    simp only [plD] at h
    obtain ⟨a, b⟩ := pls_lay xs n h
    simp only [pdD, PyData.canLay0, PyData.depth]
    exact ⟨a, by omega⟩
  | .bl b, n, h => by cases n <;> simp only [plD, Bool.false_eq_true] at h
  | .ref b, n, h => by cases n <;> simp only [plD, Bool.false_eq_true] at h
  | .rl b, n, h => by cases n <;> simp only [plD, Bool.false_eq_true] at h
theorem pls_lay : ∀ (xs : List D) (n : Nat), plDs n xs = true → PyData.canLayAll0 (pdDs xs) = true ∧ PyData.depthAll (pdDs xs) ≤ n
  | [], n, h => ⟨rfl, Nat.zero_le _⟩
  | x :: xs, n, h => by
    simp only [plDs, Bool.and_eq_true] at h
    obtain ⟨a, b⟩ := pl_lay x n h.1
    obtain ⟨c, d⟩ := pls_lay xs n h.2
    simp only [pdDs, PyData.canLayAll0, PyData.depthAll, a, c]
    exact ⟨rfl, by omega⟩
end
/-- a thing reads as data -/
def Pd (S : Store) (x : D) (p : PyData) : Prop := (∃ N, ∀ n, N ≤ n → toPD n S x = some p) ∧ SeqAt.shaped p = true
def Pds (S : Store) (xs : List D) (ps : List PyData) : Prop := ∃ N, ∀ n, N ≤ n → toPDs n S xs = some ps
theorem pds_nil {S : Store} : Pds S [] [] := ⟨0, fun n _ => by cases n <;> rfl⟩
theorem pds_cons {S : Store} {x : D} {xs : List D} {p : PyData} {ps : List PyData} (h : ∃ N, ∀ n, N ≤ n → toPD n S x = some p) (t : Pds S xs ps) : Pds S (x :: xs) (p :: ps) := by
  obtain ⟨N, h⟩ := h
  obtain ⟨M, t⟩ := t
  refine ⟨N + M + 1, fun n hn => ?_⟩
  cases n with
  | zero => omega
  | succ n => simp only [toPDs, h n (by omega), t n (by omega)]
theorem pd_tup {S : Store} {xs : List D} {ps : List PyData} (t : Pds S xs ps) : ∃ N, ∀ n, N ≤ n → toPD n S (.tup xs) = some (.tuple ps) := by
  obtain ⟨N, t⟩ := t
  refine ⟨N + 1, fun n hn => ?_⟩
  cases n with
  | zero => omega
  | succ n => simp only [toPD, t n (by omega)]; rfl
theorem pd_ref {S : Store} {a : Addr} {xs : List D} {ps : List PyData} (e : S a = some (.lst xs)) (t : Pds S xs ps) : ∃ N, ∀ n, N ≤ n → toPD n S (.ref a) = some (.list ps) := by
  obtain ⟨N, t⟩ := t
  refine ⟨N + 1, fun n hn => ?_⟩
  cases n with
  | zero => omega
  | succ n => simp only [toPD, e, t n (by omega)]; rfl
theorem pd_at {S : Store} {x : D} {p : PyData} (h : ∀ n, toPD (n + 1) S x = some p) : ∃ N, ∀ n, N ≤ n → toPD n S x = some p := ⟨1, fun n hn => by
  cases n with
  | zero => omega
  | succ n => exact h n⟩
mutual
theorem pl_toPD : ∀ (x : D) (n : Nat) (S : Store), plD n x = true → ∃ N, ∀ k, N ≤ k → toPD k S x = some (pdD x)
  | .int i, n, S, h => pd_at fun _ => rfl
  | .non, n, S, h => pd_at fun _ => rfl
  | .str s, n, S, h => pd_at fun _ => rfl
  | .tup xs, 0, S, h => by simp only [plD, Bool.false_eq_true] at h
  | .tup xs, n + 1, S, h => by
    simp only [plD] at h
    exact pd_tup (pls_toPDs xs n S h)
  | .bl b, n, S, h => by cases n <;> simp only [plD, Bool.false_eq_true] at h
  | .ref b, n, S, h => by cases n <;> simp only [plD, Bool.false_eq_true] at h
  | .rl b, n, S, h => by cases n <;> simp only [plD, Bool.false_eq_true] at h
theorem pls_toPDs : ∀ (xs : List D) (n : Nat) (S : Store), plDs n xs = true → Pds S xs (pdDs xs)
  | [], n, S, h => pds_nil
  | x :: xs, n, S, h => by
    simp only [plDs, Bool.and_eq_true] at h
    exact pds_cons (pl_toPD x n S h.1) (pls_toPDs xs n S h.2)
end
theorem Pd.pl {S : Store} {x : D} {n : Nat} (hn : n ≤ 60) (h : plD n x = true) : Pd S x (pdD x) := by
  refine ⟨pl_toPD x n S h, ?_⟩
  obtain ⟨a, b⟩ := pl_lay x n h
  unfold SeqAt.shaped
  rw [a, decide_eq_true (by omega)]
  rfl
theorem Pd.ls {S : Store} {a : Addr} {xs : List D} {n : Nat} (hn : n ≤ 60) (e : S a = some (.lst xs)) (h : plDs n xs = true) : Pd S (.ref a) (.list (pdDs xs)) := by
  refine ⟨pd_ref e (pls_toPDs xs n S h), ?_⟩
  obtain ⟨a, b⟩ := pls_lay xs n h
  unfold SeqAt.shaped
  rw [Bool.and_eq_true, decide_eq_true_eq]
  simp only [PyData.canLay0, PyData.depth]
  exact ⟨a, by omega⟩
theorem w_pd {S : Store} {x y : D} {p q : PyData} {Q : PyData → PyData → Prop} (h : Pd S x p) (k : Pd S y q) (z : Q p q) :
    ∃ n p q, toPD n S x = some p ∧ toPD n S y = some q ∧ SeqAt.shaped p = true ∧ SeqAt.shaped q = true ∧ Q p q := by
  obtain ⟨⟨N, h⟩, h'⟩ := h
  obtain ⟨⟨M, k⟩, k'⟩ := k
  exact ⟨N + M, p, q, h _ (by omega), k _ (by omega), h', k', z⟩
/-- x == y of plain things -/
theorem w_eqp {S : Store} {x y : D} {n m : Nat} {Q : Bool → Prop} (hn : n ≤ 60) (hm : m ≤ 60) (h : plD n x = true) (k : plD m y = true) (z : Q (decide (x = y))) : wpEq x y S Q := by
  have g : ∃ n p q, toPD n S x = some p ∧ toPD n S y = some q ∧ SeqAt.shaped p = true ∧ SeqAt.shaped q = true ∧ Q (PyData.eqv p q) := w_pd (.pl hn h) (.pl hm k) (by rw [eqv_pl h k]; exact z)
  cases x <;> cases y <;> first
    | exact g
    | (show Q _; simp only [D.str.injEq] at z; exact z)
theorem w_eqp' {S : Store} {x y : D} {n m : Nat} {Q : Bool → Prop} (hn : n ≤ 60) (hm : m ≤ 60) (h : plD n x = true) (k : plD m y = true) (z : Q (decide (x = y))) : ∃ n p q, toPD n S x = some p ∧ toPD n S y = some q ∧ SeqAt.shaped p = true ∧ SeqAt.shaped q = true ∧ Q (PyData.eqv p q) := w_pd (.pl hn h) (.pl hm k) (by rw [eqv_pl h k]; exact z)
/-- two lists of plain things -/
theorem w_eql {S : Store} {a b : Addr} {xs ys : List D} {n m : Nat} {Q : Bool → Prop} (ea : S a = some (.lst xs)) (eb : S b = some (.lst ys)) (hn : n ≤ 60) (hm : m ≤ 60) (h : plDs n xs = true) (k : plDs m ys = true) (z : Q (decide (xs = ys))) :
    ∃ n p q, toPD n S (.ref a) = some p ∧ toPD n S (.ref b) = some q ∧ SeqAt.shaped p = true ∧ SeqAt.shaped q = true ∧ Q (PyData.eqv p q) := w_pd (.ls hn ea h) (.ls hm eb k) (by
  have e : PyData.eqv (.list (pdDs xs)) (.list (pdDs ys)) = PyData.eqvAll (pdDs xs) (pdDs ys) := by simp only [PyData.eqv]
  rw [e, eqvs_pl h k]; exact z)
theorem plDs_all {n : Nat} : ∀ {xs : List D}, (∀ x ∈ xs, plD n x = true) → plDs n xs = true
  | [], _ => rfl
  | x :: xs, h => by
    simp only [plDs, Bool.and_eq_true]
    exact ⟨h x List.mem_cons_self, plDs_all fun y hy => h y (List.mem_cons_of_mem _ hy)⟩
theorem plDs_map {α : Type} {f : α → D} {n : Nat} {xs : List α} (h : ∀ x ∈ xs, plD n (f x) = true) : plDs n (xs.map f) = true := plDs_all fun y hy => by
  obtain ⟨x, hx, e⟩ := List.mem_map.mp hy
  rw [← e]
  exact h x hx
end SW
/-! SW, part R: loops and comprehensions over parts. -/
namespace SW
open PySem L2
section
variable {P : Prg} {T : Nat → Option FD} {j : Nat}
/-- a comprehension: I at each place -/
theorem w_compS {guard : Store → Prop} {G : D → Option Env} {c v : Ex} {p : Addr} {Q : Store → Prop} {items : List D} {S : Store} (I : Nat → List D → Store → Prop) (h0 : I 0 [] S) (hg : ∀ k acc S, I k acc S → guard S) (hp : ∀ k acc S, I k acc S → S p = some (.lst acc))
    (step : ∀ (k : Nat) d acc S, items[k]? = some d → I k acc S → ∃ env, G d = some env ∧ wpE P (run P T j) (runM P T j) c env S (fun x S3 => ∃ c, x = .bl c ∧ if c = true then
      wpE P (run P T j) (runM P T j) v env S3 (fun y S4 => Inn (∃ L, Sep (Ls p acc :: L) S4 ∧ acc.length < sizeLine ∧ ∀ S5, Sep (Ls p (acc ++ [y]) :: L) S5 → I (k + 1) (acc ++ [y]) S5)) noX else Inn (I (k + 1) acc S3)) noX)
    (fin : ∀ acc S, I items.length acc S → Q S) :
      Hold (compLoop guard G (fun env S Q => wpE P (run P T j) (runM P T j) c env S Q noX) (fun env S Q => wpE P (run P T j) (runM P T j) v env S Q noX) p Q items S) := by
  refine w_comp I h0 hg hp (fun k d acc S e h => ?_) fin
  obtain ⟨env, e1, h1⟩ := step k d acc S e h
  refine ⟨env, e1, wpE_mono (runs_mono P T j).1 (runs_mono P T j).2 c (fun x S3 ⟨b, eb, z⟩ => ⟨b, eb, ?_⟩) (fun _ _ z => z) h1⟩
  cases b with
  | false => exact z
  | true =>
    refine wpE_mono (runs_mono P T j).1 (runs_mono P T j).2 v (fun y S4 ⟨_, L, s4, l4, z4⟩ => inn ⟨s4.get, l4, fun S5 k5 e5 => z4 S5 (s4.kp1 k5 e5)⟩) (fun _ _ z => z) z
/-- a comprehension that filters and maps, and leaves all other parts -/
theorem w_compF {guard : Store → Prop} {G : D → Option Env} {c v : Ex} {p : Addr} {Q : Store → Prop} {items : List D} {S : Store} {L : List HP} (cf : D → Bool) (vf : D → D) (hs : Sep (Ls p [] :: L) S) (hl : items.length ≤ 1000000) (hg : ∀ S, Sep L S → guard S)
    (step : ∀ (k : Nat) d acc S, items[k]? = some d → d ∈ items → Sep (Ls p acc :: L) S → ∃ env, G d = some env ∧ wpE P (run P T j) (runM P T j) c env S (fun x S3 => ∃ c, x = .bl c ∧ if c = true then
      wpE P (run P T j) (runM P T j) v env S3 (fun y S4 => Inn (cf d = true ∧ y = vf d ∧ Sep (Ls p acc :: L) S4)) noX else Inn (cf d = false ∧ Sep (Ls p acc :: L) S3)) noX)
    (fin : ∀ S, Sep (Ls p ((items.filter cf).map vf) :: L) S → Q S) :
      Hold (compLoop guard G (fun env S Q => wpE P (run P T j) (runM P T j) c env S Q noX) (fun env S Q => wpE P (run P T j) (runM P T j) v env S Q noX) p Q items S) := by
  refine w_compS (fun k acc S => Sep (Ls p acc :: L) S ∧ acc = ((items.take k).filter cf).map vf) ⟨hs, rfl⟩ (fun k acc S z => hg S z.1.tail) (fun k acc S z => z.1.get) ?_ ?_
  · rintro k d acc S e ⟨h, ea⟩
    obtain ⟨env, e1, h1⟩ := step k d acc S e (List.mem_of_getElem? e) h
    have et : items.take (k + 1) = items.take k ++ [d] := by rw [List.take_add_one, e]; rfl
    have la : acc.length < sizeLine := by
      refine lenOk' (Nat.lt_of_le_of_lt (m := k) ?_ ?_)
      · rw [ea, List.length_map]
        exact Nat.le_trans (List.length_filter_le _ _) (List.length_take_le _ _)
      · have := (List.getElem?_eq_some_iff.mp e).1
        omega
    refine ⟨env, e1, wpE_mono (runs_mono P T j).1 (runs_mono P T j).2 c (fun x S3 ⟨b, eb, z⟩ => ⟨b, eb, ?_⟩) (fun _ _ z => z) h1⟩
    cases b with
    | false =>
      obtain ⟨_, z1, z2⟩ := z
      refine inn ⟨z2, ?_⟩
      rw [ea, et, List.filter_append, List.map_append, List.filter_cons_of_neg (by rw [z1]; decide)]
      simp
    | true =>
      refine wpE_mono (runs_mono P T j).1 (runs_mono P T j).2 v (fun y S4 ⟨_, z1, z2, z3⟩ => inn ⟨L, z3, la, fun S5 s5 => ⟨s5, ?_⟩⟩) (fun _ _ z => z) z
      rw [ea, et, List.filter_append, List.map_append, List.filter_cons_of_pos z1, z2]
      rfl
  · rintro acc S ⟨h, ea⟩
    rw [List.take_length] at ea
    subst ea
    exact fin S h
/-- .. that maps alone -/
theorem w_compM {guard : Store → Prop} {G : D → Option Env} {v : Ex} {p : Addr} {Q : Store → Prop} {items : List D} {S : Store} {L : List HP} (vf : D → D) (hs : Sep (Ls p [] :: L) S) (hl : items.length ≤ 1000000) (hg : ∀ S, Sep L S → guard S)
    (step : ∀ (k : Nat) d acc S, items[k]? = some d → d ∈ items → Sep (Ls p acc :: L) S → ∃ env, G d = some env ∧ wpE P (run P T j) (runM P T j) v env S (fun y S4 => Inn (y = vf d ∧ Sep (Ls p acc :: L) S4)) noX)
    (fin : ∀ S, Sep (Ls p (items.map vf) :: L) S → Q S) :
      Hold (compLoop guard G (fun env S Q => wpE P (run P T j) (runM P T j) (.cst (.bl true)) env S Q noX) (fun env S Q => wpE P (run P T j) (runM P T j) v env S Q noX) p Q items S) := by
  refine w_compF (fun _ => true) vf hs hl hg (fun k d acc S e m h => ?_) ?_
  · obtain ⟨env, e1, h1⟩ := step k d acc S e m h
    refine ⟨env, e1, true, rfl, ?_⟩
    show wpE _ _ _ _ _ _ _ _
    exact wpE_mono (runs_mono P T j).1 (runs_mono P T j).2 v (fun y S4 ⟨_, z2, z3⟩ => inn ⟨rfl, z2, z3⟩) (fun _ _ z => z) h1
  · rw [List.filter_eq_self.mpr (fun _ _ => rfl)]
    exact fin
end
/-! a cell of which something is known -/
def Own (a : Addr) (P : Cell → Prop) : HP := fun h => ∃ c, h a = some c ∧ P c
theorem Sep.own {L : List HP} {S : Store} {a : Addr} {P : Cell → Prop} (h : Sep (Own a P :: L) S) : ∃ c, P c ∧ Sep (Cl a c :: L) S := by
  obtain ⟨h1, h2, d, l1, l2, ⟨c, e, z⟩, r⟩ := h
  exact ⟨c, z, h1, h2, d, l1, l2, e, r⟩
theorem Sep.toOwn {L : List HP} {S : Store} {a : Addr} {c : Cell} {P : Cell → Prop} (h : Sep (Cl a c :: L) S) (z : P c) : Sep (Own a P :: L) S := h.imp fun _ e => ⟨c, e, z⟩
theorem Sep.own_is {L : List HP} {S : Store} {a : Addr} {P : Cell → Prop} (h : Sep (Own a P :: L) S) : ∃ c, S a = some c ∧ P c := by
  obtain ⟨c, z, q⟩ := h.own
  exact ⟨c, q.get, z⟩
theorem Sep.own_kp {L : List HP} {S S' : Store} {a : Addr} {P P' : Cell → Prop} (h : Sep (Own a P :: L) S) (k : Kp [a] S S') (z : ∃ c, S' a = some c ∧ P' c) : Sep (Own a P' :: L) S' := by
  obtain ⟨c, _, q⟩ := h.own
  obtain ⟨c', e', z'⟩ := z
  exact (q.kp1 k e').toOwn z'
theorem w_asSs {S : Store} {a : Addr} {xs xs' : List D} {i : Int} {j : Nat} {d : D} {Q : Store → Prop} {Z : Prop} {L L' : List HP} (h : Sep L S) (q : Chd a (.lst xs) (.lst xs') L L') (e : ixN xs.length i = some j) (e2 : xs.set j d = xs') (z : ∀ S', Sep L' S' → Q S') :
    (∃ p xs k j, D.ref a = .ref p ∧ S p = some (.lst xs) ∧ D.int i = .int k ∧ ixN xs.length k = some j ∧ Q (S.upd p (.lst (xs.set j d)))) ∨ Z := by
  subst e2
  refine .inl ⟨a, xs, i, j, rfl, ?_, rfl, e, z _ (h.chg q)⟩
  clear z
  induction q generalizing S with
  | here => exact h.get
  | there _ ih => exact ih h.tail
section
variable {P : Prg} {T : Nat → Option FD} {j : Nat}
/-- a while: I at each test, with a measure; J at the end -/
theorem w_whileJ {b : Sms} {e : Ex} {nx bk ct : Env → Store → Prop} {rt : PQ} {ex : Env → PX} {env : Env} {S : Store} (I : Nat → Env → Store → Prop) (J : Env → Store → Prop) (m : Nat) (h0 : I m env S)
    (step : ∀ m env S, I m env S → wpE P (run P T j) (runM P T j) e env S (fun x S1 => ∃ c, x = .bl c ∧ if c = true then (∃ m', m = m' + 1 ∧ wpSs P (run P T j) (runM P T j) b env S1 ⟨fun e s => Inn (I m' e s), rt, fun e s => Inn (J e s), fun e s => Inn (I m' e s), ex⟩) else Inn (J env S1)) (ex env))
    (fin : ∀ env S, J env S → nx env S) :
    Hold (∃ n, whileN (fun env S Q => wpE P (run P T j) (runM P T j) e env S Q (ex env)) (wpSs P (run P T j) (runM P T j) b) ⟨nx, rt, bk, ct, ex⟩ n env S) := by
  refine w_while I m h0 fun m env S h => wpE_mono (runs_mono P T j).1 (runs_mono P T j).2 e (fun x S1 ⟨c, ec, z⟩ => ⟨c, ec, ?_⟩) (fun _ _ z => z) (step m env S h)
  cases c with
  | false => exact fin _ _ z.out
  | true =>
    obtain ⟨m', em, z⟩ := z
    exact ⟨m', em, wpSs_mono (K := ⟨fun e s => Inn (I m' e s), rt, fun e s => Inn (J e s), fun e s => Inn (I m' e s), ex⟩) (runs_mono P T j).1 (runs_mono P T j).2 b ⟨fun _ _ z => z, fun _ _ z => z, fun _ _ z => fin _ _ z.out, fun _ _ z => z, fun _ _ _ z => z⟩ z⟩
/-- a for with breaks -/
theorem w_forJ {b : Sms} {t : Tg} {guard : Store → Prop} {nx bk ct : Env → Store → Prop} {rt : PQ} {ex : Env → PX} {items : List D} {env : Env} {S : Store} (I : Nat → Env → Store → Prop) (J : Env → Store → Prop) (h0 : I 0 env S) (hg : ∀ k env S, I k env S → guard S)
    (step : ∀ (k : Nat) d env S, items[k]? = some d → I k env S → ∃ env2, asgT t d env = some env2 ∧ wpSs P (run P T j) (runM P T j) b env2 S ⟨fun e s => Inn (I (k + 1) e s), rt, fun e s => Inn (J e s), fun e s => Inn (I (k + 1) e s), ex⟩)
    (last : ∀ env S, I items.length env S → J env S)
    (fin : ∀ env S, J env S → nx env S) : Hold (forLoop guard (asgT t) (wpSs P (run P T j) (runM P T j) b) ⟨nx, rt, bk, ct, ex⟩ items env S) := by
  refine w_for (K := ⟨nx, rt, bk, ct, ex⟩) I h0 hg (fun k d env S e h => ?_) fun env S h => fin _ _ (last _ _ h)
  obtain ⟨env2, e2, z⟩ := step k d env S e h
  exact ⟨env2, e2, wpSs_mono (K := ⟨fun e s => Inn (I (k + 1) e s), rt, fun e s => Inn (J e s), fun e s => Inn (I (k + 1) e s), ex⟩) (runs_mono P T j).1 (runs_mono P T j).2 b ⟨fun _ _ z => z, fun _ _ z => z, fun _ _ z => fin _ _ z.out, fun _ _ z => z, fun _ _ _ z => z⟩ z⟩
end
section
variable {P : Prg} {T : Nat → Option FD} {j : Nat}
/-- both ways of an if meet at J -/
theorem w_join {p : Bool} {a b : Sms} {nx bk ct : Env → Store → Prop} {rt : PQ} {ex : Env → PX} {env : Env} {S : Store} (J : Env → Store → Prop)
    (h1 : p = true → wpSs P (run P T j) (runM P T j) a env S ⟨fun e s => Inn (J e s), rt, bk, ct, ex⟩)
    (h2 : p = false → wpSs P (run P T j) (runM P T j) b env S ⟨fun e s => Inn (J e s), rt, bk, ct, ex⟩)
    (fin : ∀ env S, J env S → nx env S) : Cond p (wpSs P (run P T j) (runM P T j) a env S ⟨nx, rt, bk, ct, ex⟩) (wpSs P (run P T j) (runM P T j) b env S ⟨nx, rt, bk, ct, ex⟩) := by
  have mono : ∀ b, wpSs P (run P T j) (runM P T j) b env S ⟨fun e s => Inn (J e s), rt, bk, ct, ex⟩ → wpSs P (run P T j) (runM P T j) b env S ⟨nx, rt, bk, ct, ex⟩ := fun b z =>
    wpSs_mono (K := ⟨fun e s => Inn (J e s), rt, bk, ct, ex⟩) (runs_mono P T j).1 (runs_mono P T j).2 b ⟨fun _ _ z => fin _ _ z.out, fun _ _ z => z, fun _ _ z => z, fun _ _ z => z, fun _ _ _ z => z⟩ z
  refine cb (fun e => ?_) fun e => ?_
  · exact mono a (h1 e)
  · exact mono b (h2 e)
end
section
variable {P : Prg} {T : Nat → Option FD} {j : Nat}
/-- over a list of typed things: filter, map -/
theorem w_compA {α : Type} {guard : Store → Prop} {G : D → Option Env} {c v : Ex} {p : Addr} {Q : Store → Prop} {S : Store} {L : List HP} {g : α → D} {xs : List α} (cf : α → Bool) (f : α → D) (hs : Sep (Ls p [] :: L) S) (hl : xs.length ≤ 1000000) (hg : ∀ S, Sep L S → guard S)
    (step : ∀ (k : Nat) x acc S, xs[k]? = some x → x ∈ xs → Sep (Ls p acc :: L) S → ∃ env, G (g x) = some env ∧ wpE P (run P T j) (runM P T j) c env S (fun y S3 => ∃ c, y = .bl c ∧ if c = true then
      wpE P (run P T j) (runM P T j) v env S3 (fun y S4 => Inn (cf x = true ∧ y = f x ∧ Sep (Ls p acc :: L) S4)) noX else Inn (cf x = false ∧ Sep (Ls p acc :: L) S3)) noX)
    (fin : ∀ S, Sep (Ls p ((xs.filter cf).map f) :: L) S → Q S) :
      Hold (compLoop guard G (fun env S Q => wpE P (run P T j) (runM P T j) c env S Q noX) (fun env S Q => wpE P (run P T j) (runM P T j) v env S Q noX) p Q (xs.map g) S) := by
  refine w_compS (fun k acc S => Sep (Ls p acc :: L) S ∧ acc = ((xs.take k).filter cf).map f) ⟨hs, rfl⟩ (fun k acc S z => hg S z.1.tail) (fun k acc S z => z.1.get) ?_ ?_
  · rintro k d acc S e ⟨h, ea⟩
    rw [List.getElem?_map] at e
    cases ex : xs[k]? with
    | none => rw [ex] at e; cases e
    | some x =>
    rw [ex] at e
    cases e
    obtain ⟨env, e1, h1⟩ := step k x acc S ex (List.mem_of_getElem? ex) h
    have et : xs.take (k + 1) = xs.take k ++ [x] := by rw [List.take_add_one, ex]; rfl
    have la : acc.length < sizeLine := by
      refine lenOk' (Nat.lt_of_le_of_lt (m := k) ?_ ?_)
      · rw [ea, List.length_map]
        exact Nat.le_trans (List.length_filter_le _ _) (List.length_take_le _ _)
      · have := (List.getElem?_eq_some_iff.mp ex).1
        omega
    refine ⟨env, e1, wpE_mono (runs_mono P T j).1 (runs_mono P T j).2 c (fun y S3 ⟨b, eb, z⟩ => ⟨b, eb, ?_⟩) (fun _ _ z => z) h1⟩
    cases b with
    | false =>
      obtain ⟨_, z1, z2⟩ := z
      refine inn ⟨z2, ?_⟩
      rw [ea, et, List.filter_append, List.map_append, List.filter_cons_of_neg (by rw [z1]; decide)]
      simp
    | true =>
      refine wpE_mono (runs_mono P T j).1 (runs_mono P T j).2 v (fun y S4 ⟨_, z1, z2, z3⟩ => inn ⟨L, z3, la, fun S5 s5 => ⟨s5, ?_⟩⟩) (fun _ _ z => z) z
      rw [ea, et, List.filter_append, List.map_append, List.filter_cons_of_pos z1, z2]
      rfl
  · rintro acc S ⟨h, ea⟩
    rw [List.length_map, List.take_length] at ea
    subst ea
    exact fin S h
/-- .. map alone -/
theorem w_compB {α : Type} {guard : Store → Prop} {G : D → Option Env} {v : Ex} {p : Addr} {Q : Store → Prop} {S : Store} {L : List HP} {g : α → D} {xs : List α} (f : α → D) (hs : Sep (Ls p [] :: L) S) (hl : xs.length ≤ 1000000) (hg : ∀ S, Sep L S → guard S)
    (step : ∀ (k : Nat) x acc S, xs[k]? = some x → x ∈ xs → Sep (Ls p acc :: L) S → ∃ env, G (g x) = some env ∧ wpE P (run P T j) (runM P T j) v env S (fun y S4 => Inn (y = f x ∧ Sep (Ls p acc :: L) S4)) noX)
    (fin : ∀ S, Sep (Ls p (xs.map f) :: L) S → Q S) :
      Hold (compLoop guard G (fun env S Q => wpE P (run P T j) (runM P T j) (.cst (.bl true)) env S Q noX) (fun env S Q => wpE P (run P T j) (runM P T j) v env S Q noX) p Q (xs.map g) S) := by
  refine w_compA (fun _ => true) f hs hl hg (fun k d acc S e m h => ?_) ?_
  · obtain ⟨env, e1, h1⟩ := step k d acc S e m h
    refine ⟨env, e1, true, rfl, ?_⟩
    show wpE _ _ _ _ _ _ _ _
    exact wpE_mono (runs_mono P T j).1 (runs_mono P T j).2 v (fun y S4 ⟨_, z2, z3⟩ => inn ⟨rfl, z2, z3⟩) (fun _ _ z => z) h1
  · rw [List.filter_eq_self.mpr (fun _ _ => rfl)]
    exact fin
end
theorem eqv_ls {xs ys : List D} {n m : Nat} (h : plDs n xs = true) (k : plDs m ys = true) : PyData.eqv (.list (pdDs xs)) (.list (pdDs ys)) = decide (xs = ys) := by
  have e : PyData.eqv (.list (pdDs xs)) (.list (pdDs ys)) = PyData.eqvAll (pdDs xs) (pdDs ys) := by simp only [PyData.eqv]
  rw [e, eqvs_pl h k]
theorem cdnF' {p : Prop} [Decidable p] {A B : Prop} (e : p) (h : B) : Cond (!decide p) A B := cdn (fun z => absurd e z) fun _ => h
end SW
namespace SW
open PySem L2
theorem w_ixA {α : Type} {f : α → D} {S : Store} {a : Addr} {xs : List α} {i : Int} {Q : D → Prop} {Z : Prop} (h : S a = some (.lst (xs.map f))) (h0 : 0 ≤ i) (h1 : i < xs.length) (q : ∀ x, xs[i.toNat]? = some x → x ∈ xs → Q (f x)) :
    (∃ xs i' d, S a = some (.lst xs) ∧ D.int i = .int i' ∧ atI xs i' = some d ∧ Q d) ∨ Z := by
  obtain ⟨n, rfl⟩ : ∃ n : Nat, i = n := ⟨i.toNat, by omega⟩
  have hn : n < xs.length := by omega
  refine .inl ⟨_, _, f xs[n], h, rfl, atI_nat ?_, q _ (List.getElem?_eq_getElem hn) (List.getElem_mem hn)⟩
  rw [List.getElem?_map, List.getElem?_eq_getElem hn]
  rfl
theorem w_ixTA {α : Type} {f : α → D} {xs : List α} {i : Int} {Q : D → Prop} (h0 : 0 ≤ i) (h1 : i < xs.length) (q : ∀ x, xs[i.toNat]? = some x → x ∈ xs → Q (f x)) :
    ∃ i' d, D.int i = .int i' ∧ atI (xs.map f) i' = some d ∧ Q d := by
  obtain ⟨n, rfl⟩ : ∃ n : Nat, i = n := ⟨i.toNat, by omega⟩
  have hn : n < xs.length := by omega
  refine ⟨_, f xs[n], rfl, atI_nat ?_, q _ (List.getElem?_eq_getElem hn) (List.getElem_mem hn)⟩
  rw [List.getElem?_map, List.getElem?_eq_getElem hn]
  rfl
theorem nodup_len {α : Type} : ∀ {l m : List α}, l.Nodup → (∀ x ∈ l, x ∈ m) → l.length ≤ m.length
  | [], m, _, _ => Nat.zero_le _
  | x :: l, m, hn, hs => by
    obtain ⟨a, b, e⟩ := List.append_of_mem (hs x List.mem_cons_self)
    have hn' := List.nodup_cons.mp hn
    have := nodup_len (l := l) (m := a ++ b) hn'.2 fun y hy => by
      have z := hs y (List.mem_cons_of_mem _ hy)
      rw [e] at z
      rcases List.mem_append.mp z with z | z
      · exact List.mem_append_left _ z
      · rcases List.mem_cons.mp z with z | z
        · rw [z] at hy; exact absurd hy hn'.1
        · exact List.mem_append_right _ z
    rw [e]
    simp only [List.length_append, List.length_cons] at this ⊢
    omega
theorem inF_int (x : Int) : ∀ xs : List Int, inF (.int x) (xs.map .int) = decide (x ∈ xs)
  | [] => rfl
  | y :: ys => by
    have ih := inF_int x ys
    unfold inF at ih ⊢
    rw [List.map_cons, List.any_cons, ih]
    show ((y == x) || decide (x ∈ ys)) = _
    by_cases h : y = x
    · rw [h, beq_self_eq_true, Bool.true_or, decide_eq_true List.mem_cons_self]
    · rw [beq_eq_false_iff_ne.mpr h, Bool.false_or]
      by_cases m : x ∈ ys
      · rw [decide_eq_true m, decide_eq_true (List.mem_cons_of_mem _ m)]
      · rw [decide_eq_false m, decide_eq_false fun z => by
          rcases List.mem_cons.mp z with z | z
          · exact h z.symm
          · exact m z]
theorem flat_ints (xs : List Int) : ∀ z ∈ xs.map D.int, flatD z = true := fun z hz => by
  obtain ⟨i, _, e⟩ := List.mem_map.mp hz
  rw [← e]
  rfl
theorem map_snoc {α β : Type} (f : α → β) (xs : List α) (x : α) : xs.map f ++ [f x] = (xs ++ [x]).map f := by rw [List.map_append]; rfl
theorem cut_map {α β : Type} (f : α → β) (xs : List α) (lo hi : Option Int) : cutL (xs.map f) lo hi = (cutL xs lo hi).map f := by
  unfold cutL
  rw [List.length_map, ← List.map_drop, ← List.map_take]
theorem ints_of : ∀ xs : List Int, intsOf (xs.map .int) = some xs
  | [] => rfl
  | x :: xs => by
    show (intsOf (xs.map .int)).map (x :: ·) = _
    rw [ints_of xs]
    rfl
theorem mod_wrap {a d n : Int} (a0 : 0 ≤ a) (a1 : a < n) (d0 : 0 < d) (d1 : d < n) : (a + d) % n ≠ a ∧ 0 ≤ (a + d) % n ∧ (a + d) % n < n := by
  have h := emod_rng (a + d) (m := n) (by omega)
  refine ⟨?_, h.1, h.2⟩
  by_cases q : a + d < n
  · rw [Int.emod_eq_of_lt (by omega) q]; omega
  · have e : (a + d) % n = a + d - n := by
      have : (a + d - n) % n = a + d - n := Int.emod_eq_of_lt (by omega) (by omega)
      rw [Int.sub_emod_right] at this
      exact this
    omega
theorem nodup_get {α : Type} {l : List α} (h : l.Nodup) {i j : Nat} {x y : α} (e1 : l[i]? = some x) (e2 : l[j]? = some y) (n : i ≠ j) : x ≠ y := by
  obtain ⟨hi, rfl⟩ := List.getElem?_eq_some_iff.mp e1
  obtain ⟨hj, rfl⟩ := List.getElem?_eq_some_iff.mp e2
  intro e
  rcases Nat.lt_or_gt_of_ne n with q | q
  · exact (List.pairwise_iff_getElem.mp h) i j hi hj q e
  · exact (List.pairwise_iff_getElem.mp h) j i hj hi q e.symm
end SW
namespace SW
open PySem L2
theorem cdP {p : Prop} [Decidable p] {A B : Prop} (e : p) (h : A) : Cond (decide p) A B := cd (fun _ => h) fun z => absurd e z
theorem cdNP {p : Prop} [Decidable p] {A B : Prop} (e : ¬ p) (h : B) : Cond (decide p) A B := cd (fun z => absurd z e) fun _ => h
theorem cdNN {p : Prop} [Decidable p] {A B : Prop} (e : ¬ p) (h : A) : Cond (!decide p) A B := cdn (fun _ => h) fun z => absurd z e
theorem enu_get {α : Type} {f : α → D} {xs : List α} {k : Nat} {d : D} (h : (enuL (xs.map f))[k]? = some d) : ∃ x, xs[k]? = some x ∧ d = .tup [.int (k : Int), f x] := by
  unfold enuL at h
  rw [List.getElem?_zipWith, List.getElem?_map] at h
  cases q : xs[k]? with
  | none =>
    rw [q] at h
    cases q2 : (List.range (xs.map f).length)[k]? with
    | none => rw [q2] at h; cases h
    | some i => rw [q2] at h; cases h
  | some x =>
    rw [q] at h
    have hk : k < xs.length := (List.getElem?_eq_some_iff.mp q).1
    rw [List.getElem?_range (by rw [List.length_map]; exact hk)] at h
    cases h
    exact ⟨x, rfl, rfl⟩
theorem enu_len {xs : List D} : (enuL xs).length = xs.length := by
  unfold enuL
  rw [List.length_zipWith, List.length_range, Nat.min_self]
theorem cut_take {α : Type} (xs : List α) (k : Nat) : cutL xs none (some (k : Int)) = xs.take k := by
  unfold cutL
  have e : HT.sIx xs.length xs.length (some (k : Int)) = min k xs.length := by
    unfold HT.sIx
    dsimp only
    rw [if_neg (by omega)]
    omega
  rw [e]
  show List.take (min k xs.length - 0) (List.drop 0 xs) = _
  rw [Nat.sub_zero, List.drop_zero]
  by_cases h : k ≤ xs.length
  · rw [Nat.min_eq_left h]
  · rw [Nat.min_eq_right (by omega), List.take_length, List.take_of_length_le (by omega)]
theorem cut_drop {α : Type} (xs : List α) (k : Nat) : cutL xs (some (k : Int)) none = xs.drop k := by
  unfold cutL
  have e : HT.sIx xs.length 0 (some (k : Int)) = min k xs.length := by
    unfold HT.sIx
    dsimp only
    rw [if_neg (by omega)]
    omega
  have e2 : HT.sIx xs.length xs.length none = xs.length := rfl
  rw [e, e2]
  by_cases h : k ≤ xs.length
  · rw [Nat.min_eq_left h, List.take_of_length_le (by rw [List.length_drop]; omega)]
  · rw [Nat.min_eq_right (by omega), List.drop_of_length_le (Nat.le_refl _), List.drop_of_length_le (by omega), List.take_nil]
end SW
namespace SW
open PySem L2
def sortI (l : List Int) : List Int := l.mergeSort fun a b => decide (a ≤ b)
theorem sortI_perm (l : List Int) : (sortI l).Perm l := List.mergeSort_perm l _
theorem sortI_sorted (l : List Int) : (sortI l).Pairwise (· ≤ ·) := by
  have h := List.pairwise_mergeSort (le := fun a b : Int => decide (a ≤ b)) (fun a b c h1 h2 => by simp only [decide_eq_true_eq] at *; omega) (fun a b => by simp only [Bool.or_eq_true, decide_eq_true_eq]; omega) l
  exact h.imp fun h => of_decide_eq_true h
theorem sortI_eq {l m : List Int} (p : m.Perm l) (h : m.Pairwise (· ≤ ·)) : m = sortI l := PySem.W.ksm_same (p.trans (sortI_perm l).symm) h (sortI_sorted l)
theorem sortI_congr {l m : List Int} (p : m.Perm l) : sortI m = sortI l := sortI_eq ((sortI_perm m).trans p) (sortI_sorted m)
end SW
namespace SW
open PySem L2
theorem min2 {a b m : Int} (hm : m ∈ [a, b]) (h : ∀ y ∈ [a, b], m ≤ y) : m = if b < a then b else a := by
  have h1 := h a (by simp)
  have h2 := h b (by simp)
  simp only [List.mem_cons, List.not_mem_nil, or_false] at hm
  split <;> omega
theorem max2 {a b m : Int} (hm : m ∈ [a, b]) (h : ∀ y ∈ [a, b], y ≤ m) : m = if b > a then b else a := by
  have h1 := h a (by simp)
  have h2 := h b (by simp)
  simp only [List.mem_cons, List.not_mem_nil, or_false] at hm
  split <;> omega
end SW
namespace SW
open PySem L2
/-- reads as data of a depth -/
def Pdn (m : Nat) (S : Store) (x : D) (p : PyData) : Prop := (∃ N, ∀ n, N ≤ n → toPD n S x = some p) ∧ p.canLay0 = true ∧ p.depth ≤ m
theorem Pdn.pd {m : Nat} {S : Store} {x : D} {p : PyData} (h : Pdn m S x p) (hm : m ≤ 64) : Pd S x p := by
  refine ⟨h.1, ?_⟩
  unfold SeqAt.shaped
  rw [Bool.and_eq_true, decide_eq_true_eq]
  exact ⟨h.2.1, Nat.le_trans h.2.2 hm⟩
theorem Pdn.pl {n : Nat} {S : Store} {x : D} (h : plD n x = true) : Pdn n S x (pdD x) := ⟨pl_toPD x n S h, pl_lay x n h⟩
theorem Pdn.ls {n : Nat} {S : Store} {a : Addr} {xs : List D} (e : S a = some (.lst xs)) (h : plDs n xs = true) : Pdn (n + 1) S (.ref a) (.list (pdDs xs)) := by
  obtain ⟨a, b⟩ := pls_lay xs n h
  refine ⟨pd_ref e (pls_toPDs xs n S h), ?_, ?_⟩
  · simp only [PyData.canLay0]; exact a
  · simp only [PyData.depth]; omega
def Pdsn (m : Nat) (S : Store) (xs : List D) (ps : List PyData) : Prop := Pds S xs ps ∧ PyData.canLayAll0 ps = true ∧ PyData.depthAll ps ≤ m
theorem Pdsn.nil {m : Nat} {S : Store} : Pdsn m S [] [] := ⟨pds_nil, rfl, Nat.zero_le _⟩
theorem Pdsn.cons {m : Nat} {S : Store} {x : D} {xs : List D} {p : PyData} {ps : List PyData} (h : Pdn m S x p) (t : Pdsn m S xs ps) : Pdsn m S (x :: xs) (p :: ps) := by
  refine ⟨pds_cons h.1 t.1, ?_, ?_⟩
  · simp only [PyData.canLayAll0, h.2.1, t.2.1]; rfl
  · have a := h.2.2
    have b := t.2.2
    simp only [PyData.depthAll]; omega
theorem Pdsn.ref {m : Nat} {S : Store} {a : Addr} {xs : List D} {ps : List PyData} (e : S a = some (.lst xs)) (t : Pdsn m S xs ps) : Pdn (m + 1) S (.ref a) (.list ps) := by
  refine ⟨pd_ref e t.1, ?_, ?_⟩
  · simp only [PyData.canLay0]; exact t.2.1
  · have b := t.2.2
    simp only [PyData.depth]; omega
theorem Pdsn.tup {m : Nat} {S : Store} {xs : List D} {ps : List PyData} (t : Pdsn m S xs ps) : Pdn (m + 1) S (.tup xs) (.tuple ps) := by
  refine ⟨pd_tup t.1, ?_, ?_⟩
  · simp only [PyData.canLay0]; exact t.2.1
  · have b := t.2.2
    simp only [PyData.depth]; omega
theorem Pdn.refl {m : Nat} {S : Store} {x : D} {p : PyData} (h : Pdn m S x p) : PyData.eqv p p = true := SeqAt.eqv_refl p h.2.1
theorem Pdn.le {m m' : Nat} {S : Store} {x : D} {p : PyData} (h : Pdn m S x p) (l : m ≤ m') : Pdn m' S x p := ⟨h.1, h.2.1, Nat.le_trans h.2.2 l⟩
end SW
namespace SW
open PySem L2
theorem seqRef_ref {S : Store} {a : Addr} {xs : List D} (h : S a = some (.lst xs)) : seqRef S (.ref a) = some xs := by
  simp only [seqRef, h]
end SW
namespace SW
open PySem L2
theorem rd_dic {S : Store} {a : Addr} {kvs : List (D × D)} (h : S a = some (.dic kvs)) : S.rd a = some (.dic kvs) := by
  unfold Store.rd
  rw [h]
  rfl
theorem rd_fz {S : Store} {a : Addr} {kvs : List (D × D)} (h : S a = some (.fz (.dic kvs))) : S.rd a = some (.dic kvs) := by
  unfold Store.rd
  rw [h]
  rfl
end SW
namespace SW
open PySem L2
theorem w_ixD {S : Store} {a : Addr} {xs : List D} {i : Int} {Q : D → Prop} {Z : Prop} (h : S a = some (.lst xs)) (h0 : 0 ≤ i) (h1 : i < xs.length) (q : ∀ d, xs[i.toNat]? = some d → Q d) :
    (∃ xs i' d, S a = some (.lst xs) ∧ D.int i = .int i' ∧ atI xs i' = some d ∧ Q d) ∨ Z := by
  obtain ⟨n, rfl⟩ : ∃ n : Nat, i = n := ⟨i.toNat, by omega⟩
  have hn : n < xs.length := by omega
  exact .inl ⟨_, _, xs[n], h, rfl, atI_nat (List.getElem?_eq_getElem hn), q _ (List.getElem?_eq_getElem hn)⟩
end SW
/-! ### dicts by numbers -/
namespace SW
open PySem L2
def kv {α : Type} (f : α → D) (l : List (Int × α)) : List (D × D) := l.map fun x => (D.int x.1, f x.2)
def lk {α : Type} : List (Int × α) → Int → Option α
  | [], _ => none
  | x :: r, p => if x.1 = p then some x.2 else lk r p
def pt {α : Type} : List (Int × α) → Int → α → List (Int × α)
  | [], p, v => [(p, v)]
  | x :: r, p, v => if x.1 = p then (x.1, v) :: r else x :: pt r p v
theorem lk_cons {α : Type} (x : Int × α) (r : List (Int × α)) (p : Int) : lk (x :: r) p = if x.1 = p then some x.2 else lk r p := rfl
theorem pt_cons {α : Type} (x : Int × α) (r : List (Int × α)) (p : Int) (v : α) : pt (x :: r) p v = if x.1 = p then (x.1, v) :: r else x :: pt r p v := rfl
def dl {α : Type} (l : List (Int × α)) (p : Int) : List (Int × α) := l.filter fun x => decide (x.1 ≠ p)
theorem eqK_int (i j : Int) : eqK (.int i) (.int j) = decide (i = j) := by
  show (i == j) = _
  by_cases h : i = j
  · rw [h, decide_eq_true rfl]; exact beq_self_eq_true j
  · rw [decide_eq_false h]; exact beq_eq_false_iff_ne.mpr h
theorem getK_kv {α : Type} (f : α → D) (p : Int) : ∀ l : List (Int × α), getK (.int p) (kv f l) = (lk l p).map f
  | [] => rfl
  | x :: r => by
    have ih := getK_kv f p r
    unfold kv at ih ⊢
    rw [List.map_cons]
    show (if eqK (.int x.1) (.int p) = true then some (f x.2) else getK (.int p) (r.map fun x => (D.int x.1, f x.2))) = (if x.1 = p then some x.2 else lk r p).map f
    rw [ih, eqK_int]
    by_cases h : x.1 = p
    · rw [decide_eq_true h, if_pos rfl, if_pos h]; rfl
    · rw [decide_eq_false h, if_neg Bool.false_ne_true, if_neg h]
theorem hasK_kv {α : Type} (f : α → D) (p : Int) : ∀ l : List (Int × α), hasK (.int p) (kv f l) = (lk l p).isSome
  | [] => rfl
  | x :: r => by
    have ih := hasK_kv f p r
    unfold hasK kv at ih ⊢
    rw [List.map_cons, List.any_cons, ih, eqK_int]
    rw [lk_cons]
    by_cases h : x.1 = p
    · rw [decide_eq_true h, if_pos h]; rfl
    · rw [decide_eq_false h, if_neg h]
      show (false || (lk r p).isSome) = _
      rw [Bool.false_or]
theorem lk_none {α : Type} {p : Int} : ∀ {l : List (Int × α)}, lk l p = none → ∀ x ∈ l, x.1 ≠ p
  | [], _, _, h => by cases h
  | y :: r, h, x, hx => by
    rw [lk_cons] at h
    split at h
    · cases h
    · rename_i hne
      rcases List.mem_cons.mp hx with e | hx
      · rw [e]; exact hne
      · exact lk_none h x hx
theorem lk_mem {α : Type} {p : Int} {v : α} : ∀ {l : List (Int × α)}, lk l p = some v → (p, v) ∈ l
  | [], h => by cases h
  | y :: r, h => by
    rw [lk_cons] at h
    split at h
    · rename_i e
      cases h
      rw [← e]
      exact List.mem_cons_self
    · exact List.mem_cons_of_mem _ (lk_mem h)
theorem lk_keys {α : Type} {p : Int} {l : List (Int × α)} : (lk l p).isSome = decide (p ∈ l.map (·.1)) := by
  induction l with
  | nil => rfl
  | cons x r ih =>
    rw [lk_cons]
    by_cases h : x.1 = p
    · rw [if_pos h, decide_eq_true (by rw [List.map_cons, h]; exact List.mem_cons_self)]; rfl
    · rw [if_neg h, ih, List.map_cons]
      by_cases m : p ∈ r.map (·.1)
      · rw [decide_eq_true m, decide_eq_true (List.mem_cons_of_mem _ m)]
      · rw [decide_eq_false m, decide_eq_false fun z => by
          rcases List.mem_cons.mp z with z | z
          · exact h z.symm
          · exact m z]
def KN {α : Type} (l : List (Int × α)) : Prop := (l.map (·.1)).Nodup
theorem putK_kv {α : Type} (f : α → D) (p : Int) (v : α) : ∀ {l : List (Int × α)}, KN l → putK (.int p) (f v) (kv f l) = kv f (pt l p v)
  | [], _ => rfl
  | x :: r, hn => by
    have hn' : x.1 ∉ r.map (·.1) ∧ KN r := List.nodup_cons.mp hn
    have ih := putK_kv f p v hn'.2
    unfold putK at ih ⊢
    rw [hasK_kv] at ih ⊢
    rw [lk_cons, pt_cons]
    by_cases h : x.1 = p
    · rw [if_pos h, if_pos h]
      show (if true = true then repK (.int p) (f v) (kv f (x :: r)) else _) = _
      rw [if_pos rfl]
      unfold repK kv
      rw [List.map_cons, List.map_cons, List.map_cons]
      dsimp only
      rw [eqK_int, decide_eq_true h, if_pos rfl]
      congr 1
      have e : (r.map fun x => (D.int x.1, f x.2)).map (fun q => if eqK q.1 (.int p) = true then (q.1, f v) else q) = (r.map fun x => (D.int x.1, f x.2)).map id := List.map_congr_left fun q hq => by
        obtain ⟨y, hy, rfl⟩ := List.mem_map.mp hq
        dsimp only
        rw [eqK_int, decide_eq_false, if_neg Bool.false_ne_true]
        · rfl
        · exact fun z => hn'.1 (by rw [h, ← z]; exact List.mem_map.mpr ⟨y, hy, rfl⟩)
      rw [e, List.map_id]
    · rw [if_neg h, if_neg h]
      cases q : (lk r p).isSome with
      | true =>
        rw [q] at ih
        rw [if_pos rfl] at ih ⊢
        unfold repK kv at ih ⊢
        rw [List.map_cons, List.map_cons, List.map_cons, ← ih]
        dsimp only
        rw [eqK_int, decide_eq_false h, if_neg Bool.false_ne_true]
      | false =>
        rw [q] at ih
        rw [if_neg Bool.false_ne_true] at ih ⊢
        unfold kv at ih ⊢
        rw [List.map_cons, List.map_cons, List.cons_append, ih]
theorem delK_kv {α : Type} (f : α → D) (p : Int) (l : List (Int × α)) : delK (.int p) (kv f l) = kv f (dl l p) := by
  unfold delK kv dl
  rw [List.filter_map]
  congr 1
  refine List.filter_congr fun x _ => ?_
  show (!eqK (.int x.1) (.int p)) = decide (x.1 ≠ p)
  rw [eqK_int]
  by_cases h : x.1 = p
  · rw [decide_eq_true h, decide_eq_false (fun z => z h)]; rfl
  · rw [decide_eq_false h, decide_eq_true h]; rfl
theorem kv_keys {α : Type} (f : α → D) (l : List (Int × α)) : (kv f l).map (·.1) = (l.map (·.1)).map .int := by
  unfold kv
  rw [List.map_map, List.map_map]
  rfl
theorem kv_len {α : Type} (f : α → D) (l : List (Int × α)) : (kv f l).length = l.length := by unfold kv; rw [List.length_map]
theorem kv_items {α : Type} (f : α → D) (l : List (Int × α)) : itemsD true (kv f l) = l.map fun x => .tup [.int x.1, f x.2] := by
  unfold itemsD kv
  rw [if_pos rfl, List.map_map]
  rfl
theorem kv_keysD {α : Type} (f : α → D) (l : List (Int × α)) : itemsD false (kv f l) = l.map fun x => .int x.1 := by
  unfold itemsD kv
  rw [if_neg (by decide), List.map_map]
  rfl
theorem pt_keys {α : Type} {l : List (Int × α)} {p : Int} {v : α} : (pt l p v).map (·.1) = if p ∈ l.map (·.1) then l.map (·.1) else l.map (·.1) ++ [p] := by
  induction l with
  | nil => rfl
  | cons x r ih =>
    rw [pt_cons]
    by_cases h : x.1 = p
    · rw [if_pos h, if_pos (by rw [List.map_cons, h]; exact List.mem_cons_self)]; rfl
    · rw [if_neg h, List.map_cons, ih]
      by_cases m : p ∈ r.map (·.1)
      · rw [if_pos m, if_pos (by rw [List.map_cons]; exact List.mem_cons_of_mem _ m)]; rfl
      · rw [if_neg m, if_neg fun z => by
          rw [List.map_cons] at z
          rcases List.mem_cons.mp z with z | z
          · exact h z.symm
          · exact m z]
        rfl
theorem KN.pt {α : Type} {l : List (Int × α)} (h : KN l) (p : Int) (v : α) : KN (pt l p v) := by
  unfold KN at h ⊢
  rw [pt_keys]
  split
  · exact h
  · rename_i m
    rw [List.nodup_append]
    exact ⟨h, List.nodup_cons.mpr ⟨List.not_mem_nil, List.nodup_nil⟩, fun a ha b hb e => m (by rw [List.mem_singleton] at hb; rw [← hb, ← e]; exact ha)⟩
theorem KN.dl {α : Type} {l : List (Int × α)} (h : KN l) (p : Int) : KN (dl l p) := by
  unfold KN at h ⊢
  unfold SW.dl
  exact h.sublist (List.filter_sublist.map _)
theorem pt_len {α : Type} {l : List (Int × α)} {p : Int} {v : α} : (pt l p v).length ≤ l.length + 1 := by
  have e := congrArg List.length (pt_keys (l := l) (p := p) (v := v))
  rw [List.length_map] at e
  rw [e]
  split
  · rw [List.length_map]; omega
  · rw [List.length_append, List.length_map, List.length_singleton]; exact Nat.le_refl _
theorem dl_len {α : Type} {l : List (Int × α)} {p : Int} : (dl l p).length ≤ l.length := List.length_filter_le _ _
theorem w_meth {P : Prg} {b : Addr} {c m f : Nat} {fs : List (Nat × D)} {S : Store} {G : Addr → Nat → Prop} (h : S b = some (.ins c fs)) (e : P.meth c m = some f) (z : G b f) : ∃ p c fs f, D.ref b = .ref p ∧ S p = some (.ins c fs) ∧ P.meth c m = some f ∧ G p f := ⟨b, c, fs, f, rfl, h, e, z⟩
end SW
namespace SW
open PySem L2
/-- d[p] = v -/
theorem w_asK {α : Type} (f : α → D) {l : List (Int × α)} {a : Addr} {p : Int} (v : α) {S : Store} {L L' : List HP} {Z : Prop} {Q : Store → Prop} (h : Sep L S) (q : Chd a (.dic (kv f l)) (.dic (kv f (pt l p v))) L L') (hn : KN l) (hl : l.length < 1000000) (z : ∀ S', Sep L' S' → Q S') :
    Z ∨ ∃ p' kvs, D.ref a = .ref p' ∧ S p' = some (.dic kvs) ∧ isKey (.int p) = true ∧ kvs.length < sizeLine ∧ Q (S.upd p' (.dic (putK (.int p) (f v) kvs))) := by
  refine .inr ⟨a, kv f l, rfl, ?_, rfl, lenOk' (by rw [kv_len]; exact hl), ?_⟩
  · clear z
    induction q generalizing S with
    | here => exact h.get
    | there _ ih => exact ih h.tail
  · rw [putK_kv f p v hn]
    exact z _ (h.chg q)
/-- d[p], there -/
theorem w_ixK {α : Type} {f : α → D} {l : List (Int × α)} {a : Addr} {p : Int} {v : α} {S : Store} {Z : Prop} {Q : D → Prop} (h : S.rd a = some (.dic (kv f l))) (e : lk l p = some v) (z : Q (f v)) :
    Z ∨ ∃ kvs d, S.rd a = some (.dic kvs) ∧ isKey (.int p) = true ∧ getK (.int p) kvs = some d ∧ Q d := .inr ⟨_, _, h, rfl, by rw [getK_kv, e]; rfl, z⟩
end SW
namespace SW
open PySem L2
theorem pt_new {α : Type} {p : Int} {v : α} : ∀ {l : List (Int × α)}, p ∉ l.map (·.1) → pt l p v = l ++ [(p, v)]
  | [], _ => rfl
  | x :: r, h => by
    rw [List.map_cons] at h
    rw [pt_cons, if_neg fun e => h (by rw [e]; exact List.mem_cons_self), pt_new fun z => h (List.mem_cons_of_mem _ z)]
    rfl
theorem KN.take {α : Type} {l : List (Int × α)} (h : KN l) (k : Nat) : KN (l.take k) := by
  unfold KN at h ⊢
  rw [List.map_take]
  exact h.sublist (List.take_sublist _ _)
theorem KN.fresh {α : Type} {l : List (Int × α)} (h : KN l) {k : Nat} {x : Int × α} (e : l[k]? = some x) : x.1 ∉ (l.take k).map (·.1) := by
  intro m
  rw [List.map_take] at m
  obtain ⟨i, hi, e2⟩ := List.mem_take_iff_getElem.mp m
  have hk := (List.getElem?_eq_some_iff.mp e).1
  have e3 : (l.map (·.1))[k]? = some x.1 := by rw [List.getElem?_map, e]; rfl
  exact nodup_get h (List.getElem?_eq_getElem (by omega)) e3 (by omega) e2
theorem take_snoc {α : Type} {l : List α} {k : Nat} {x : α} (e : l[k]? = some x) : l.take (k + 1) = l.take k ++ [x] := by rw [List.take_add_one, e]; rfl
end SW
/-! the law's defs in the small language (printed) -/
namespace SW
abbrev f_is_within : Nat := 0
abbrev f_need_bridges : Nat := 1
abbrev f_tie_of : Nat := 2
abbrev f_make_net : Nat := 3
abbrev f_show_net : Nat := 4
abbrev f_number_in : Nat := 5
abbrev f_read_net : Nat := 6
abbrev f_law_stream : Nat := 7
abbrev f_law_take : Nat := 8
abbrev f_law_bridges : Nat := 9
abbrev f_law_cost : Nat := 10
abbrev f_law_ties : Nat := 11
abbrev f_law_due : Nat := 12
abbrev f_law_same : Nat := 13
abbrev f_law_written : Nat := 14
abbrev f_law : Nat := 15
abbrev x_ShutError : Nat := 0
abbrev x_NoNet : Nat := 1
abbrev k_MOST_BRIDGES : D := .int 10
abbrev k_MOST_TIES : D := .int 16
abbrev k_MOST_NUMBER : D := .int 999
abbrev k_MOST_COST : D := .int 1000
abbrev k_FIGURES : D := .str (tx [48, 49, 50, 51, 52, 53, 54, 55, 56, 57])
abbrev k_MOST_FIGURES : D := .int 4
def b_is_within : Sms :=
  (.cons (.ret (.an (.isi (.var 0) [.int]) (.an (.no (.isi (.var 0) [.bool])) (.chn .le .le (.var 1) (.var 0) (.var 2))))) .nil)
def b_need_bridges : Sms :=
  (.cons (.ite (.or (.no (.isi (.var 0) [.list])) (.no (.chn .le .le (.cst (.int 1)) (.blt .len (.cons (.var 0) .nil)) (.cst k_MOST_BRIDGES)))) (
    (.cons (.raise x_NoNet) .nil)) .nil)
  (.cons (.for_ (.tup (.cons (.nm 1) (.cons (.nm 2) .nil))) (.enu (.var 0)) (
    (.cons (.ite (.or (.no (.call f_is_within (.cons (.var 2) (.cons (.cst (.int 0)) (.cons (.cst k_MOST_NUMBER) .nil))))) (.cmp .in_ (.var 2) (.slc (.var 0) .no (.some (.var 1))))) (
      (.cons (.raise x_NoNet) .nil)) .nil) .nil))) .nil))
def b_tie_of : Sms :=
  (.cons (.ite (.or (.no (.isi (.var 1) [.tuple])) (.or (.cmp .ne (.blt .len (.cons (.var 1) .nil)) (.cst (.int 3))) (.no (.call f_is_within (.cons (.ix (.var 1) (.cst (.int 2))) (.cons (.cst (.int 1)) (.cons (.cst k_MOST_COST) .nil))))))) (
    (.cons (.raise x_NoNet) .nil)) .nil)
  (.cons (.for_ (.nm 2) (.seq (.slc (.var 1) .no (.some (.cst (.int 2))))) (
    (.cons (.ite (.or (.no (.call f_is_within (.cons (.var 2) (.cons (.cst (.int 0)) (.cons (.cst k_MOST_NUMBER) .nil))))) (.cmp .notin (.var 2) (.var 0))) (
      (.cons (.raise x_NoNet) .nil)) .nil) .nil)))
  (.cons (.ite (.cmp .eq (.ix (.var 1) (.cst (.int 0))) (.ix (.var 1) (.cst (.int 1)))) (
    (.cons (.raise x_NoNet) .nil)) .nil)
  (.cons (.ret (.tup (.cons (.blt .min (.cons (.slc (.var 1) .no (.some (.cst (.int 2)))) .nil)) (.cons (.blt .max (.cons (.slc (.var 1) .no (.some (.cst (.int 2)))) .nil)) (.cons (.ix (.var 1) (.cst (.int 2))) .nil))))) .nil))))
def b_make_net : Sms :=
  (.cons (.ex (.call f_need_bridges (.cons (.var 0) .nil)))
  (.cons (.ite (.or (.no (.isi (.var 1) [.list])) (.cmp .gt (.blt .len (.cons (.var 1) .nil)) (.cst k_MOST_TIES))) (
    (.cons (.raise x_NoNet) .nil)) .nil)
  (.cons (.ret (.tup (.cons (.blt .tuple (.cons (.blt .sorted (.cons (.var 0) .nil)) .nil)) (.cons (.blt .tuple (.cons (.comp (.call f_tie_of (.cons (.var 0) (.cons (.var 2) .nil))) (.nm 2) (.seq (.var 1)) (.cst (.bl true)) [2]) .nil)) .nil)))) .nil)))
def b_show_net : Sms :=
  (.cons (.asg (.nm 1) (.comp (.bin .add (.bin .add (.bin .add (.cst (.str (tx []))) (.cst (.str (tx [98, 114, 105, 100, 103, 101, 32])))) (.blt .str (.cons (.var 5) .nil))) (.cst (.str (tx [10])))) (.nm 5) (.seq (.ix (.var 0) (.cst (.int 0)))) (.cst (.bl true)) [5]))
  (.cons (.for_ (.tup (.cons (.nm 2) (.cons (.nm 3) (.cons (.nm 4) .nil)))) (.seq (.ix (.var 0) (.cst (.int 1)))) (
    (.cons (.ex (.bmt (.var 1) .append (.cons (.bin .add (.bin .add (.bin .add (.bin .add (.bin .add (.bin .add (.bin .add (.cst (.str (tx []))) (.cst (.str (tx [116, 105, 101, 32])))) (.blt .str (.cons (.var 2) .nil))) (.cst (.str (tx [32])))) (.blt .str (.cons (.var 3) .nil))) (.cst (.str (tx [32])))) (.blt .str (.cons (.var 4) .nil))) (.cst (.str (tx [10])))) .nil))) .nil)))
  (.cons (.ret (.bmt (.cst (.str (tx []))) .join (.cons (.var 1) .nil))) .nil)))
def b_number_in : Sms :=
  (.cons (.ite (.no (.chn .le .le (.cst (.int 1)) (.blt .len (.cons (.var 0) .nil)) (.cst k_MOST_FIGURES))) (
    (.cons (.raise x_NoNet) .nil)) .nil)
  (.cons (.for_ (.nm 1) (.seq (.var 0)) (
    (.cons (.ite (.cmp .notin (.var 1) (.cst k_FIGURES)) (
      (.cons (.raise x_NoNet) .nil)) .nil) .nil)))
  (.cons (.ret (.blt .int (.cons (.var 0) .nil))) .nil)))
def b_read_net : Sms :=
  (.cons (.asg (.nm 1) (.lst .nil))
  (.cons (.asg (.nm 2) (.lst .nil))
  (.cons (.for_ (.nm 3) (.seq (.slc (.bmt (.var 0) .split (.cons (.cst (.str (tx [10]))) .nil)) .no (.some (.neg (.cst (.int 1)))))) (
    (.cons (.asg (.nm 5) (.bmt (.var 3) .split (.cons (.cst (.str (tx [32]))) .nil)))
    (.cons (.ite (.an (.cmp .eq (.ix (.var 5) (.cst (.int 0))) (.cst (.str (tx [98, 114, 105, 100, 103, 101])))) (.cmp .eq (.blt .len (.cons (.var 5) .nil)) (.cst (.int 2)))) (
      (.cons (.ex (.bmt (.var 1) .append (.cons (.call f_number_in (.cons (.ix (.var 5) (.cst (.int 1))) .nil)) .nil))) .nil)) (
      (.cons (.ite (.an (.cmp .eq (.ix (.var 5) (.cst (.int 0))) (.cst (.str (tx [116, 105, 101])))) (.cmp .eq (.blt .len (.cons (.var 5) .nil)) (.cst (.int 4)))) (
        (.cons (.ex (.bmt (.var 2) .append (.cons (.blt .tuple (.cons (.comp (.call f_number_in (.cons (.var 6) .nil)) (.nm 6) (.seq (.slc (.var 5) (.some (.cst (.int 1))) .no)) (.cst (.bl true)) [6]) .nil)) .nil))) .nil)) (
        (.cons (.raise x_NoNet) .nil))) .nil))) .nil))))
  (.cons (.asg (.nm 4) (.call f_make_net (.cons (.var 1) (.cons (.var 2) .nil))))
  (.cons (.ite (.cmp .ne (.call f_show_net (.cons (.var 4) .nil)) (.var 0)) (
    (.cons (.raise x_NoNet) .nil)) .nil)
  (.cons (.ret (.var 4)) .nil))))))
def b_law_stream : Sms :=
  (.cons (.asg (.nm 1) (.bin .mod (.var 0) (.cst (.int 536870909))))
  (.cons (.asg (.nm 1) (.bin .mod (.bin .add (.bin .mul (.bin .mod (.bin .mul (.var 1) (.var 1)) (.cst (.int 536870909))) (.bin .add (.var 1) (.cst (.int 7)))) (.cst (.int 13))) (.cst (.int 536870909))))
  (.cons (.ret (.lst (.cons (.var 0) (.cons (.var 1) (.cons (.blt .int (.cons (.cmp .ge (.var 0) (.bin .pow (.cst (.int 10)) (.cst (.int 18)))) .nil)) .nil))))) .nil)))
def b_law_take : Sms :=
  (.cons (.ite (.cmp .eq (.ix (.var 0) (.cst (.int 2))) (.cst (.int 1))) (
    (.cons (.asg (.nm 2) (.bin .mod (.ix (.var 0) (.cst (.int 0))) (.var 1)))
    (.cons (.asS (.var 0) (.cst (.int 0)) (.bin .fdiv (.ix (.var 0) (.cst (.int 0))) (.var 1)))
    (.cons (.ret (.var 2)) .nil)))) .nil)
  (.cons (.asS (.var 0) (.cst (.int 1)) (.bin .mod (.bin .mul (.bin .add (.ix (.var 0) (.cst (.int 1))) (.cst (.int 7919))) (.bin .add (.ix (.var 0) (.cst (.int 1))) (.cst (.int 104729)))) (.cst (.int 536870909))))
  (.cons (.ret (.bin .mod (.bin .fdiv (.bin .add (.bin .mul (.ix (.var 0) (.cst (.int 1))) (.cst (.int 48271))) (.cst (.int 11))) (.cst (.int 64))) (.var 1))) .nil)))
def b_law_bridges : Sms :=
  (.cons (.asg (.nm 1) (.lst .nil))
  (.cons (.asg (.nm 2) (.ix (.lst (.cons (.bin .add (.cst (.int 1)) (.call f_law_take (.cons (.var 0) (.cons (.cst (.int 10)) .nil)))) (.cons (.bin .add (.cst (.int 4)) (.call f_law_take (.cons (.var 0) (.cons (.cst (.int 4)) .nil)))) (.cons (.cst (.int 10)) .nil)))) (.call f_law_take (.cons (.var 0) (.cons (.cst (.int 3)) .nil)))))
  (.cons (.for_ (.nm 3) (.rng1 (.var 2)) (
    (.cons (.asg (.nm 4) (.ix (.lst (.cons (.call f_law_take (.cons (.var 0) (.cons (.cst (.int 1000)) .nil))) (.cons (.bin .add (.cst (.int 990)) (.call f_law_take (.cons (.var 0) (.cons (.cst (.int 10)) .nil)))) (.cons (.call f_law_take (.cons (.var 0) (.cons (.cst (.int 12)) .nil))) .nil)))) (.call f_law_take (.cons (.var 0) (.cons (.cst (.int 3)) .nil)))))
    (.cons (.while_ (.cmp .in_ (.var 4) (.var 1)) (
      (.cons (.asg (.nm 4) (.bin .mod (.bin .add (.var 4) (.cst (.int 1))) (.cst (.int 1000)))) .nil)))
    (.cons (.ex (.bmt (.var 1) .append (.cons (.var 4) .nil))) .nil)))))
  (.cons (.ret (.var 1)) .nil))))
def b_law_cost : Sms :=
  (.cons (.ret (.ix (.lst (.cons (.bin .add (.cst (.int 1)) (.call f_law_take (.cons (.var 0) (.cons (.cst (.int 1000)) .nil)))) (.cons (.cst (.int 1)) (.cons (.cst (.int 1000)) (.cons (.bin .add (.cst (.int 1)) (.call f_law_take (.cons (.var 0) (.cons (.cst (.int 5)) .nil)))) .nil))))) (.call f_law_take (.cons (.var 0) (.cons (.cst (.int 4)) .nil))))) .nil)
def b_law_ties : Sms :=
  (.cons (.asg (.nm 2) (.lst .nil))
  (.cons (.for_ (.nm 3) (.rng1 (.bin .mul (.ix (.lst (.cons (.call f_law_take (.cons (.var 0) (.cons (.cst (.int 17)) .nil))) (.cons (.cst (.int 16)) .nil))) (.call f_law_take (.cons (.var 0) (.cons (.cst (.int 2)) .nil)))) (.blt .int (.cons (.cmp .gt (.blt .len (.cons (.var 1) .nil)) (.cst (.int 1))) .nil)))) (
    (.cons (.asg (.nm 4) (.call f_law_take (.cons (.var 0) (.cons (.blt .len (.cons (.var 1) .nil)) .nil))))
    (.cons (.asg (.nm 5) (.bin .mod (.bin .add (.bin .add (.var 4) (.cst (.int 1))) (.call f_law_take (.cons (.var 0) (.cons (.bin .sub (.blt .len (.cons (.var 1) .nil)) (.cst (.int 1))) .nil)))) (.blt .len (.cons (.var 1) .nil))))
    (.cons (.asg (.nm 6) (.tup (.cons (.ix (.var 1) (.var 4)) (.cons (.ix (.var 1) (.var 5)) (.cons (.call f_law_cost (.cons (.var 0) .nil)) .nil)))))
    (.cons (.ite (.an (.cmp .ne (.var 2) (.lst .nil)) (.cmp .eq (.call f_law_take (.cons (.var 0) (.cons (.cst (.int 6)) .nil))) (.cst (.int 0)))) (
      (.cons (.asg (.nm 6) (.ix (.var 2) (.call f_law_take (.cons (.var 0) (.cons (.blt .len (.cons (.var 2) .nil)) .nil)))))
      (.cons (.asg (.nm 6) (.ix (.lst (.cons (.var 6) (.cons (.tup (.cons (.ix (.var 6) (.cst (.int 1))) (.cons (.ix (.var 6) (.cst (.int 0))) (.cons (.ix (.var 6) (.cst (.int 2))) .nil)))) (.cons (.tup (.cons (.ix (.var 6) (.cst (.int 0))) (.cons (.ix (.var 6) (.cst (.int 1))) (.cons (.call f_law_cost (.cons (.var 0) .nil)) .nil)))) .nil)))) (.call f_law_take (.cons (.var 0) (.cons (.cst (.int 3)) .nil))))) .nil))) .nil)
    (.cons (.ex (.bmt (.var 2) .append (.cons (.var 6) .nil))) .nil)))))))
  (.cons (.ret (.var 2)) .nil)))
def b_law_due : Sms :=
  (.cons (.ret (.tup (.cons (.blt .tuple (.cons (.blt .sorted (.cons (.var 0) .nil)) .nil)) (.cons (.blt .tuple (.cons (.comp (.tup (.cons (.blt .min (.cons (.slc (.var 2) .no (.some (.cst (.int 2)))) .nil)) (.cons (.blt .max (.cons (.slc (.var 2) .no (.some (.cst (.int 2)))) .nil)) (.cons (.ix (.var 2) (.cst (.int 2))) .nil)))) (.nm 2) (.seq (.var 1)) (.cst (.bl true)) [2]) .nil)) .nil)))) .nil)
def b_law_same : Sms :=
  (.cons (.ite (.isi (.var 1) [.list, .tuple]) (
    (.cons (.ite (.or (.cmp .ne (.isi (.var 0) [.list]) (.isi (.var 1) [.list])) (.cmp .ne (.isi (.var 0) [.tuple]) (.isi (.var 1) [.tuple]))) (
      (.cons (.ret (.cst (.bl false))) .nil)) .nil)
    (.cons (.ite (.cmp .ne (.blt .len (.cons (.var 0) .nil)) (.blt .len (.cons (.var 1) .nil))) (
      (.cons (.ret (.cst (.bl false))) .nil)) .nil)
    (.cons (.ret (.cmp .eq (.comp (.var 2) (.nm 2) (.rng1 (.blt .len (.cons (.var 1) .nil))) (.no (.call f_law_same (.cons (.ix (.var 0) (.var 2)) (.cons (.ix (.var 1) (.var 2)) .nil)))) [2]) (.lst .nil))) .nil)))) .nil)
  (.cons (.ite (.or (.cmp .is (.var 1) (.cst .non)) (.isi (.var 0) [.bool])) (
    (.cons (.ret (.an (.cmp .is (.var 0) (.cst .non)) (.cmp .is (.var 1) (.cst .non)))) .nil)) .nil)
  (.cons (.ret (.an (.isi (.var 0) [.int]) (.cmp .eq (.var 0) (.var 1)))) .nil)))
def b_law_written : Sms :=
  (.cons (.asg (.nm 1) (.cst (.str (tx []))))
  (.cons (.for_ (.nm 2) (.seq (.ix (.var 0) (.cst (.int 0)))) (
    (.cons (.asg (.nm 1) (.bin .add (.bin .add (.bin .add (.var 1) (.cst (.str (tx [98, 114, 105, 100, 103, 101, 32])))) (.blt .str (.cons (.var 2) .nil))) (.cst (.str (tx [10]))))) .nil)))
  (.cons (.for_ (.tup (.cons (.nm 3) (.cons (.nm 4) (.cons (.nm 5) .nil)))) (.seq (.ix (.var 0) (.cst (.int 1)))) (
    (.cons (.asg (.nm 1) (.bin .add (.bin .add (.var 1) (.bmt (.cst (.str (tx [32]))) .join (.cons (.lst (.cons (.cst (.str (tx [116, 105, 101]))) (.cons (.blt .str (.cons (.var 3) .nil)) (.cons (.blt .str (.cons (.var 4) .nil)) (.cons (.blt .str (.cons (.var 5) .nil)) .nil))))) .nil))) (.cst (.str (tx [10]))))) .nil)))
  (.cons (.ret (.var 1)) .nil))))
def b_law : Sms :=
  (.cons (.asg (.nm 1) (.tup (.cons (.tup (.cons (.cst (.int 0)) .nil)) (.cons (.tup .nil) .nil))))
  (.cons (.for_ (.nm 2) (.seq (.bin .add (.lst (.cons (.cst (.int 0)) .nil)) (.slc (.var 0) .no (.some (.cst (.int 63)))))) (
    (.cons (.asg (.nm 3) (.call f_law_stream (.cons (.var 2) .nil)))
    (.cons (.asg (.nm 4) (.call f_law_bridges (.cons (.var 3) .nil)))
    (.cons (.asg (.nm 5) (.call f_law_ties (.cons (.var 3) (.cons (.var 4) .nil))))
    (.cons (.asg (.nm 6) (.call f_make_net (.cons (.var 4) (.cons (.var 5) .nil))))
    (.cons (.asg (.nm 7) (.call f_law_due (.cons (.var 4) (.cons (.var 5) .nil))))
    (.cons (.asg (.nm 8) (.call f_show_net (.cons (.var 6) .nil)))
    (.cons (.ite (.or (.no (.isi (.var 8) [.str])) (.or (.cmp .ne (.var 8) (.call f_law_written (.cons (.var 7) .nil))) (.no (.call f_law_same (.cons (.var 6) (.cons (.var 7) .nil)))))) (
      (.cons (.ret (.cst (.bl false))) .nil)) .nil)
    (.cons (.ite (.or (.no (.call f_law_same (.cons (.call f_read_net (.cons (.var 8) .nil)) (.cons (.var 7) .nil)))) (.no (.call f_law_same (.cons (.call f_read_net (.cons (.call f_law_written (.cons (.var 1) .nil)) .nil)) (.cons (.var 1) .nil))))) (
      (.cons (.ret (.cst (.bl false))) .nil)) .nil)
    (.cons (.ite (.or (.cmp .ne (.call f_show_net (.cons (.var 1) .nil)) (.call f_law_written (.cons (.var 1) .nil))) (.cmp .ne (.call f_show_net (.cons (.call f_read_net (.cons (.var 8) .nil)) .nil)) (.var 8))) (
      (.cons (.ret (.cst (.bl false))) .nil)) .nil)
    (.cons (.asg (.nm 1) (.var 7)) .nil))))))))))))
  (.cons (.ret (.cmp .eq (.call f_show_net (.cons (.tup (.cons (.tup (.cons (.cst (.int 0)) (.cons (.cst (.int 999)) .nil))) (.cons (.tup (.cons (.tup (.cons (.cst (.int 0)) (.cons (.cst (.int 999)) (.cons (.cst (.int 1000)) .nil)))) .nil)) .nil))) .nil)) (.cst (.str (tx [98, 114, 105, 100, 103, 101, 32, 48, 10, 98, 114, 105, 100, 103, 101, 32, 57, 57, 57, 10, 116, 105, 101, 32, 48, 32, 57, 57, 57, 32, 49, 48, 48, 48, 10]))))) .nil)))
def TT : List FD := [
  ⟨3, 3, b_is_within⟩,
  ⟨1, 3, b_need_bridges⟩,
  ⟨2, 3, b_tie_of⟩,
  ⟨2, 3, b_make_net⟩,
  ⟨1, 6, b_show_net⟩,
  ⟨1, 2, b_number_in⟩,
  ⟨1, 7, b_read_net⟩,
  ⟨1, 2, b_law_stream⟩,
  ⟨2, 3, b_law_take⟩,
  ⟨1, 5, b_law_bridges⟩,
  ⟨1, 1, b_law_cost⟩,
  ⟨2, 7, b_law_ties⟩,
  ⟨2, 3, b_law_due⟩,
  ⟨2, 3, b_law_same⟩,
  ⟨1, 6, b_law_written⟩,
  ⟨1, 9, b_law⟩]
def T (f : Nat) : Option FD := TT[f]?
def pM : Nat → Nat → Option Nat
  | _, _ => none
def pI : Nat → Option Nat
  | _ => none
def subT : List ((Nat × Nat) × Bool) := []
def isxT : List ((Nat × Option Nat) × Bool) := []
def pS (a b : Nat) : Option Bool := subT.lookup (a, b)
def pX (a : Nat) (b : Option Nat) : Option Bool := isxT.lookup (a, b)
def P0 : Prg := ⟨pM, pI, pS, pX⟩
def depth : Nat := 40
end SW
/-! ### steps -/
section
open PySem L2 SW
local macro_rules | `(tactic| walk_at "mem") => `(tactic| first
  | (with_reducible exact List.mem_cons_self)
  | ((with_reducible apply List.mem_cons_of_mem); walk_at "mem"))
local macro_rules | `(tactic| walk_at "pick") => `(tactic| first
  | (with_reducible exact Pick.here)
  | ((with_reducible apply Pick.there); walk_at "pick"))
local macro_rules | `(tactic| walk_at "chg") => `(tactic| first
  | (with_reducible exact Chd.here)
  | ((with_reducible apply Chd.there); walk_at "chg"))
local macro_rules | `(tactic| walk_at "sp1") => `(tactic| (apply Sep.c1; (· assumption); walk_at "pick"))
local macro_rules | `(tactic| walk_at "sp2") => `(tactic| (apply Sep.c2; (· assumption); (· walk_at "pick"); walk_at "pick"))
local macro_rules | `(tactic| walk_at "sp3") => `(tactic| (apply Sep.c3; (· assumption); (· walk_at "pick"); (· walk_at "pick"); walk_at "pick"))
local macro_rules | `(tactic| walk_at "sp4") => `(tactic| (apply Sep.c4; (· assumption); (· walk_at "pick"); (· walk_at "pick"); (· walk_at "pick"); walk_at "pick"))
local macro_rules | `(tactic| walk_at "sbs") => `(tactic| first
  | (with_reducible exact Sb.refl)
  | (with_reducible exact Sb.nil)
  | (refine Sb.cons (by walk_at "pick") ?_; walk_at "sbs")
  | (refine Sb.drop ?_; walk_at "sbs"))
local macro_rules | `(tactic| walk_at "se") => `(tactic| first
  | assumption
  | (refine Sep.sb (by assumption) ?_; walk_at "sbs"))
local macro_rules | `(tactic| walk_at "st") => `(tactic| ((show (_ : Option Cell) = _); first
  | assumption
  | (refine Sep.gets (by assumption) ?_; walk_at "mem")
  | (refine Kp.keep (by assumption) _ _ ?_ ?_; (· walk_at "nm"); walk_at "st")))
local macro_rules | `(tactic| walk_at "nm") => `(tactic| first
  | exact nm0
  | (refine nm1 ?_ nm0; walk_at "ne"))
local macro_rules | `(tactic| walk_at "ne") => `(tactic| first
  | assumption
  | (apply Ne.symm; assumption)
  | (refine ne_new (by assumption) (by walk_at "is"))
  | (apply Ne.symm; refine ne_new (by assumption) (by walk_at "is")))
local macro_rules | `(tactic| walk_at "is") => `(tactic| first
  | assumption
  | (refine is_of (by assumption))
  | walk_at "is2"
  | (refine Kp.is (by assumption) ?_; walk_at "is"))
local macro_rules | `(tactic| walk_at "no") => `(tactic| first
  | assumption
  | (refine Kp.dom (by assumption) _ ?_; walk_at "no"))
local macro_rules | `(tactic| walk_at "sb") => `(tactic| first
  | (intro x hx; exact absurd hx nm0)
  | (intro x hx; exact .inl hx)
  | (intro x hx; have e := List.mem_singleton.mp hx; rw [e]; right; walk_at "no"))
local macro_rules | `(tactic| walk_at "sti") => `(tactic| walk_at "st")
local macro_rules | `(tactic| walk_at "kp") => `(tactic| first
  | exact Kp.refl
  | (refine Kp.step ?_ (by assumption) ?_; (· walk_at "kp"); walk_at "sb"))
local macro_rules | `(tactic| walk_at "len") => `(tactic| first
  | exact lenOk (by decide)
  | exact lenOk' (by decide)
  | (refine lenOk ?_; (try simp only [List.length_cons, List.length_nil, List.length_append, List.length_map]); omega)
  | (refine lenOk' ?_; (try simp only [List.length_cons, List.length_nil, List.length_append, List.length_map]); omega))
local macro_rules | `(tactic| walk_at "tlen") => `(tactic| ((try simp only [tx_len, List.length_append, List.length_cons, List.length_nil]); first
  | exact lenOk (by omega)
  | exact lenOk' (by omega)))
local macro_rules | `(tactic| walk_at "at") => `(tactic| first
  | rfl
  | exact atI_hd
  | (rw [tx_list]; exact atI_hd))
local macro_rules | `(tactic| walk_at "om") => `(tactic| first
  | assumption
  | omega
  | (simp only [List.length_map]; omega)
  | (simp only [List.length_map]; exact ⟨by omega, by omega⟩))
local macro_rules | `(tactic| walk_at "num") => `(tactic| first
  | omega
  | exact .inl ⟨by omega, by omega⟩
  | exact .inr ⟨by omega, by omega⟩
  | exact ⟨by omega, by omega⟩
  | exact .inr ⟨by decide, by decide⟩
  | exact .inl ⟨by decide, by decide⟩
  | decide
  | (simp only [List.length_map]; omega)
  | (simp only [List.length_map]; exact ⟨by omega, by omega⟩))
local macro_rules | `(tactic| walk_at "ds") => `(tactic| (try dsimp only [endK, startE, setO, List.map, List.length_cons, List.length_nil, Nat.reduceAdd, Nat.reduceSub, List.replicate_succ, List.replicate_zero, List.cons_append, List.nil_append, List.append_nil, List.set]))
local macro_rules | `(tactic| walk_at "all") => `(tactic| repeat (first | exact alln | refine allc ⟨_, rfl⟩ ?_ | refine allc ⟨_, _, rfl⟩ ?_ | refine allc ⟨_, _, _, rfl⟩ ?_))
local macro_rules | `(tactic| walk_at "new") => `(tactic| first
  | (intro p hp; generalize hS : Store.upd _ _ _ = S'; have hs := Sep.new_eq (by assumption) hp hS; clear hS hp)
  | (intro p hp; generalize hS : Store.upd _ _ _ = S'; have hk := Kp.of_new hp hS; have hp' := of_upd hS; clear hS))
local macro_rules | `(tactic| walk_at "gen") => `(tactic| first
  | (generalize hS : Store.upd _ _ _ = S'; have hs := Sep.chd_eq (by assumption) hS (by walk_at "chg"); clear hS)
  | (generalize hS : Store.upd _ _ _ = S'; have hk := Kp.of_put (by walk_at "is") hS; have hp := of_upd hS; clear hS))
local macro_rules | `(tactic| walk_at "w") => `(tactic| (
  (try (conv => whnf));
  first
  | ((with_reducible refine w_cond ?_); walk_at "ds")
  | ((with_reducible refine cdT ?_ ?_); (· rfl))
  | ((with_reducible refine cdF ?_ ?_); (· rfl))
  | ((with_reducible refine cdP ?_ ?_); (· walk_at "om"))
  | ((with_reducible refine cdNP ?_ ?_); (· walk_at "om"))
  | ((with_reducible refine cdNN ?_ ?_); (· walk_at "om"))
  | ((with_reducible refine cdnF' ?_ ?_); (· walk_at "om"))
  | (refine ⟨1, _, _, rfl, rfl, rfl, rfl, ?_⟩; first | rw [eqv_int] | rw [eqv_bool] | rw [eqv_str])
  | (refine ⟨_, rfl, ?_⟩)
  | (refine ⟨_, _, rfl, (by walk_at "at"), ?_⟩)
  | (refine ⟨_, _, rfl, (by walk_at "tlen"), (by walk_at "at"), ?_⟩)
  | (with_reducible refine And.intro True.intro ?_)
  | (refine And.intro (log2_ok (by assumption)) ?_; rw [tx_num])
  | (refine And.intro (by walk_at "tlen") ?_; try (first | rw [tx_cat] | rw [tx_len] | rw [tx_cut]))
  | (refine And.intro (by walk_at "len") ?_)
  | (refine And.intro (by walk_at "num") ?_)
  | (refine ⟨_, _, rfl, rfl, rfl, ?_⟩)
  | (refine ⟨_, (by walk_at "st"), (by walk_at "len"), ?_⟩; walk_at "gen")
  | (refine ⟨_, (by walk_at "st"), (Nat.le_of_ble_eq_true rfl), ?_⟩; walk_at "gen")
  | (refine ⟨_, (by walk_at "st"), rfl, ?_⟩; try rw [getK_kv])
  | (refine ⟨_, (by walk_at "st"), ?_⟩)
  | (refine ⟨_, _, (by walk_at "st"), (by walk_at "st"), (by walk_at "len"), ?_⟩; walk_at "new")
  | (refine ⟨_, seq_ref (by walk_at "st"), ?_⟩)
  | (refine ⟨_, seqRef_ref (by walk_at "st"), ?_⟩)
  | (refine .inl ⟨_, (by walk_at "st"), rfl, flat_ints _, ?_⟩; rw [inF_int])
  | (refine .inr ⟨_, rd_dic (by walk_at "st"), rfl, ?_⟩; try rw [getK_kv, Option.isSome_map])
  | (refine ⟨_, _, _, _, rfl, (by walk_at "st"), rfl, ?_⟩)
  | (refine ⟨_, _, _, rfl, (by walk_at "st"), (Nat.le_of_ble_eq_true rfl), ?_⟩; walk_at "gen")
  | (refine w_meth (by walk_at "sti") rfl ?_)
  | (refine .inl ⟨_, (by walk_at "st"), ?_⟩)
  | (refine .inr ⟨_, rd_dic (by walk_at "st"), ?_⟩)
  | (refine .inr ⟨_, (by walk_at "st"), ?_⟩)
  | (refine w_ixl (by walk_at "st") (by walk_at "at") ?_)
  | (refine w_asSs (by assumption) (by walk_at "chg") (by walk_at "at") rfl ?_; intro S' hs)
  | (refine w_asSl (by walk_at "st") (by walk_at "at") rfl ?_; intro S' hk hp)
  | (refine .inl ⟨_, _, (by walk_at "st"), ints_of _, ?_⟩; intro ns' p h1 h2 hp; (have e := sortI_eq h1 h2); subst e; generalize hS : Store.upd _ _ _ = S'; have hs := Sep.new_eq (by assumption) hp hS; clear hS hp h1 h2)
  | walk_at "new"
  | ((conv in (Store.upd _ _ _) => skip); generalize hS : Store.upd _ _ _ = S'; have hs := Sep.chd_eq (by assumption) hS (by walk_at "chg"); clear hS)
  | (refine ⟨_, kdM_lst (by walk_at "st"), rfl, ?_⟩)
  | (refine ⟨_, _, kd_lst (by walk_at "st"), rfl, ?_⟩)
  | (refine ⟨_, kdM_dic (by walk_at "st"), rfl, ?_⟩)
  | walk_at "call"
  ))
local macro_rules | `(tactic| walk_at "ws") => `(tactic| ((repeat (walk_at "w")); (try (conv => whnf)); walk_at "ds"; (try simp only [List.length_map])))
/-! ### nets -/
namespace SW
structure Ti where
  a : Int
  b : Int
  c : Int
abbrev Ti.D (t : Ti) : D := .tup [.int t.a, .int t.b, .int t.c]
def TiOk (bs : List Int) (t : Ti) : Prop := t.a ∈ bs ∧ t.b ∈ bs ∧ t.a ≠ t.b ∧ 1 ≤ t.c ∧ t.c ≤ 1000
def BrOk (bs : List Int) : Prop := bs.Nodup ∧ ∀ b ∈ bs, 0 ≤ b ∧ b < 1000
structure Nt where
  bs : List Int
  ts : List Ti
abbrev Nt.D (n : Nt) : D := .tup [.tup (n.bs.map .int), .tup (n.ts.map Ti.D)]
def Ti.norm (t : Ti) : Ti := ⟨if t.b < t.a then t.b else t.a, if t.b > t.a then t.b else t.a, t.c⟩
def mkNet (bs : List Int) (ts : List Ti) : Nt := ⟨sortI bs, ts.map Ti.norm⟩
theorem within_ok {k : Nat} (hk : 1 ≤ k) {x lo hi : Int} {S : Store} {Q : PQ} {E : PX} (h : Q (.bl (decide (lo ≤ x) && decide (x ≤ hi))) S) : run P0 T k f_is_within [.int x, .int lo, .int hi] S Q E := by
  refine run_succ hk rfl rfl fun j hj => ?_
  walk_at "ws"
  refine cd (fun h1 => ?_) fun h1 => ?_
  · rw [decide_eq_true h1] at h
    walk_at "ws"
    exact h
  · rw [decide_eq_false h1] at h
    exact h
end SW
local macro_rules | `(tactic| walk_at "call") => `(tactic| (refine within_ok (by omega) ?_))
namespace SW
theorem within_T {k : Nat} (hk : 1 ≤ k) {x lo hi : Int} {S : Store} {Q : PQ} {E : PX} (h1 : lo ≤ x) (h2 : x ≤ hi) (h : Q (.bl true) S) : run P0 T k f_is_within [.int x, .int lo, .int hi] S Q E := within_ok hk (by rw [decide_eq_true h1, decide_eq_true h2]; exact h)
end SW
local macro_rules | `(tactic| walk_at "call") => `(tactic| (refine within_T (by omega) (by omega) (by omega) ?_))
namespace SW
theorem need_bridges_ok {k : Nat} (hk : 2 ≤ k) {p : Addr} {bs : List Int} {L : List HP} {S : Store} {Q : PQ} {E : PX} (hs : Sep (Ls p (bs.map .int) :: L) S) (ob : BrOk bs) (hb1 : 1 ≤ bs.length) (hb2 : bs.length ≤ 10) (h : ∀ S', Sep (Ls p (bs.map .int) :: L) S' → Q .non S') : run P0 T k f_need_bridges [.ref p] S Q E := by
  refine run_succ (by omega) rfl rfl fun j hj => ?_
  walk_at "ws"
  refine .inr ⟨p, _, rfl, by walk_at "st", ?_⟩
  refine w_for (fun k env S => ∃ x y, env = [some (.ref p), x, y] ∧ Sep (Ls p (bs.map .int) :: L) S) ⟨_, _, rfl, hs⟩ (fun _ _ _ ⟨_, _, _, h⟩ => h.get) ?_ ?_
  · rintro k d env S hd ⟨x, y, rfl, hs⟩
    obtain ⟨b, eb, rfl⟩ := enu_get hd
    have hb := ob.2 b (List.mem_of_getElem? eb)
    refine ⟨_, rfl, ?_⟩
    walk_at "ws"
    rename_i p2 S2 s2
    rw [cut_take, ← List.map_take]
    refine ⟨rfl, flat_ints _, ?_⟩
    rw [inF_int, decide_eq_false fun hm => ?_]
    · walk_at "ws"
      exact inn ⟨_, _, rfl, by walk_at "se"⟩
    · obtain ⟨i, hi, e⟩ := List.mem_take_iff_getElem.mp hm
      exact nodup_get ob.1 (List.getElem?_eq_getElem (by omega)) eb (by omega) e
  · rintro env S ⟨x, y, rfl, hs⟩
    exact h S hs
end SW
local macro_rules | `(tactic| walk_at "call") => `(tactic| (refine need_bridges_ok (by omega) (by walk_at "sp1") (by assumption) (by omega) (by omega) fun S' hs => ?_))
namespace SW
theorem tie_of_ok {k : Nat} (hk : 2 ≤ k) {p : Addr} {bs : List Int} {t : Ti} {L : List HP} {S : Store} {Q : PQ} {E : PX} (hs : Sep (Ls p (bs.map .int) :: L) S) (ob : BrOk bs) (ok : TiOk bs t) (h : ∀ S', Sep (Ls p (bs.map .int) :: L) S' → Q t.norm.D S') : run P0 T k f_tie_of [.ref p, t.D] S Q E := by
  obtain ⟨o1, o2, o3, o4, o5⟩ := ok
  have q1 := ob.2 _ o1
  have q2 := ob.2 _ o2
  refine run_succ (by omega) rfl rfl fun j hj => ?_
  walk_at "ws"
  refine hold ?_
  walk_at "ws"
  refine ⟨by decide, fun m hm hle => ?_⟩
  obtain rfl : m = if t.b < t.a then t.b else t.a := by
    have h1 := hle t.a (by simp)
    have h2 := hle t.b (by simp)
    simp only [List.mem_cons, List.not_mem_nil, or_false] at hm
    split <;> omega
  walk_at "ws"
  refine ⟨by decide, fun m hm hle => ?_⟩
  obtain rfl : m = if t.b > t.a then t.b else t.a := by
    have h1 := hle t.a (by simp)
    have h2 := hle t.b (by simp)
    simp only [List.mem_cons, List.not_mem_nil, or_false] at hm
    split <;> omega
  walk_at "ws"
  exact h S hs
end SW
local macro_rules | `(tactic| walk_at "call") => `(tactic| (refine tie_of_ok (by omega) (by walk_at "sp1") (by assumption) (by assumption) fun S' hs => ?_))
namespace SW
theorem make_net_ok {k : Nat} (hk : 3 ≤ k) {p q : Addr} {bs : List Int} {ts : List Ti} {L : List HP} {S : Store} {Q : PQ} {E : PX} (hs : Sep (Ls p (bs.map .int) :: Ls q (ts.map Ti.D) :: L) S) (ob : BrOk bs) (hb1 : 1 ≤ bs.length) (hb2 : bs.length ≤ 10) (ot : ∀ t ∈ ts, TiOk bs t) (hl : ts.length ≤ 16) (h : ∀ S', Sep (Ls p (bs.map .int) :: Ls q (ts.map Ti.D) :: L) S' → Q (mkNet bs ts).D S') : run P0 T k f_make_net [.ref p, .ref q] S Q E := by
  refine run_succ (by omega) rfl rfl fun j hj => ?_
  walk_at "ws"
  rename_i S1 s1 p2 S2 s2 p3 S3 s3
  refine w_compB (fun t : Ti => t.norm.D) s3 (by omega) (fun S z => by walk_at "st") (fun k t acc S e hm s => ?_) fun S4 s4 => ?_
  · have okt := ot t hm
    refine ⟨_, rfl, ?_⟩
    walk_at "ws"
    exact inn ⟨by trivial, by walk_at "se"⟩
  · walk_at "ws"
    have e : (ts.map fun t => t.norm.D) = (ts.map Ti.norm).map Ti.D := by rw [List.map_map]; rfl
    rw [e] at s4 ⊢
    exact h S4 (by walk_at "se")
end SW
local macro_rules | `(tactic| walk_at "call") => `(tactic| (refine make_net_ok (by omega) (by walk_at "sp2") (by assumption) (by omega) (by omega) (by assumption) (by omega) fun S' hs => ?_))
namespace SW
theorem BrOk.perm {bs bs' : List Int} (h : BrOk bs) (p : bs'.Perm bs) : BrOk bs' := ⟨p.nodup_iff.mpr h.1, fun b hb => h.2 b (p.mem_iff.mp hb)⟩
theorem TiOk.perm {bs bs' : List Int} {t : Ti} (h : TiOk bs t) (p : bs'.Perm bs) : TiOk bs' t := ⟨p.mem_iff.mpr h.1, p.mem_iff.mpr h.2.1, h.2.2⟩
theorem mkNet_perm {bs bs' : List Int} {ts : List Ti} (p : bs'.Perm bs) : mkNet bs' ts = mkNet bs ts := by
  unfold mkNet
  rw [sortI_congr p]
def Ti.swap (t : Ti) : Ti := ⟨t.b, t.a, t.c⟩
theorem norm_swap (t : Ti) : t.swap.norm = t.norm := by
  unfold Ti.norm Ti.swap
  dsimp only
  congr 1
  · split <;> split <;> omega
  · split <;> split <;> omega
theorem mkNet_swap {bs : List Int} {ts : List Ti} : mkNet bs (ts.map Ti.swap) = mkNet bs ts := by
  unfold mkNet
  rw [List.map_map]
  congr 1
  exact List.map_congr_left fun t _ => norm_swap t
theorem TiOk.swap {bs : List Int} {t : Ti} (h : TiOk bs t) : TiOk bs t.swap := ⟨h.2.1, h.1, Ne.symm h.2.2.1, h.2.2.2⟩
theorem rot_perm {α : Type} (xs : List α) (n : Nat) : (xs.drop n ++ xs.take n).Perm xs := List.perm_append_comm.trans (by rw [List.take_append_drop])
end SW
/-! ### nets drawn: the row of a cell -/
namespace SW
def RowP : Cell → Prop := fun c => ∃ a b z : Int, c = .lst [.int a, .int b, .int z] ∧ 0 ≤ b ∧ b < 536870909
abbrev Rw (w : Addr) : HP := Own w RowP
theorem stream_ok {k : Nat} (hk : 1 ≤ k) {c : Int} {L : List HP} {S : Store} {Q : PQ} {E : PX} (hs : Sep L S) (h : ∀ w S', Sep (Rw w :: L) S' → Q (.ref w) S') : run P0 T k f_law_stream [.int c] S Q E := by
  refine run_succ hk rfl rfl fun j hj => ?_
  have e1 := emod_rng c (m := 536870909) (by decide)
  generalize hA : c % 536870909 = A at e1
  have e2 := emod_rng (A * A) (m := 536870909) (by decide)
  generalize hB : A * A % 536870909 = B at e2
  have e3 := emod_rng (B * (A + 7) + 13) (m := 536870909) (by decide)
  walk_at "ws"
  rename_i p S1 s1
  rw [hA, hB] at s1
  exact h p _ (s1.toOwn ⟨_, _, _, rfl, e3.1, e3.2⟩)
end SW
local macro_rules | `(tactic| walk_at "call") => `(tactic| (refine stream_ok (by omega) (by assumption) fun w S' hs => ?_))
namespace SW
theorem take_ok {k : Nat} (hk : 1 ≤ k) {w : Addr} {m : Int} {L : List HP} {S : Store} {Q : PQ} {E : PX} (hs : Sep (Rw w :: L) S) (hm : 0 < m ∧ m < 1073741824) (h : ∀ (r : Int) S', Sep (Rw w :: L) S' → 0 ≤ r → r < m → Q (.int r) S') : run P0 T k f_law_take [.ref w, .int m] S Q E := by
  obtain ⟨_, ⟨a, b, z, rfl, b0, b1⟩, hs⟩ := hs.own
  refine run_succ hk rfl rfl fun j hj => ?_
  walk_at "ws"
  refine cd (fun h1 => ?_) fun h1 => ?_
  · walk_at "ws"
    rename_i S1 s1
    exact h _ _ (s1.toOwn ⟨_, _, _, rfl, b0, b1⟩) (emod_rng _ hm.1).1 (emod_rng _ hm.1).2
  · walk_at "ws"
    rename_i S1 s1
    have e := emod_rng ((b + 7919) * (b + 104729)) (m := 536870909) (by decide)
    generalize (b + 7919) * (b + 104729) % 536870909 = d at e s1
    walk_at "ws"
    exact h _ _ (s1.toOwn ⟨_, _, _, rfl, e.1, e.2⟩) (emod_rng _ hm.1).1 (emod_rng _ hm.1).2
end SW
local macro_rules | `(tactic| walk_at "call") => `(tactic| (refine take_ok (by omega) (by walk_at "sp1") (by first | decide | walk_at "om") fun r S' hs h0 h1 => ?_))
namespace SW
theorem bridges_ok {k : Nat} (hk : 2 ≤ k) {w : Addr} {L : List HP} {S : Store} {Q : PQ} {E : PX} (hs : Sep (Rw w :: L) S) (h : ∀ p (bs : List Int) S', Sep (Ls p (bs.map .int) :: Rw w :: L) S' → BrOk bs → 1 ≤ bs.length → bs.length ≤ 10 → Q (.ref p) S') : run P0 T k f_law_bridges [.ref w] S Q E := by
  refine run_succ (by omega) rfl rfl fun j hj => ?_
  walk_at "ws"
  rename_i p S1 s1 r1 S2 s2 a1 a2 r2 S3 s3 b1 b2 p4 S4 s4 r3 S5 s5 c1 c2
  refine w_ixm (fun d => ∃ c : Int, d = .int c ∧ 1 ≤ c ∧ c ≤ 10) (by walk_at "st") (by omega) (by assumption) (allc ⟨_, rfl, by omega, by omega⟩ (allc ⟨_, rfl, by omega, by omega⟩ (allc ⟨_, rfl, by omega, by omega⟩ alln))) fun d ⟨c, e, hc1, hc2⟩ => ?_
  subst e
  walk_at "ws"
  refine w_rng (fun i env S => ∃ (bs : List Int) (x y : Option D), env = [some (.ref w), some (.ref p), some (.int c), x, y] ∧ Sep (Ls p (bs.map .int) :: Rw w :: L) S ∧ BrOk bs ∧ (bs.length : Int) = i) (by omega) ⟨[], _, _, rfl, (show Sep (Ls p [] :: Rw w :: L) S5 by walk_at "se"), ⟨List.nodup_nil, alln⟩, rfl⟩ ?_ ?_
  · rintro i env S i0 i1 ⟨bs, x, y, rfl, hs, ob, hl⟩
    walk_at "ws"
    rename_i r4 S6 s6 d1 d2 r5 S7 s7 e1 e2 r6 S8 s8 f1 f2 p9 S9 s9 r7 S10 s10 g1 g2
    refine w_ixm (fun d => ∃ c : Int, d = .int c ∧ 0 ≤ c ∧ c < 1000) (by walk_at "st") (by omega) (by assumption) (allc ⟨_, rfl, by omega, by omega⟩ (allc ⟨_, rfl, by omega, by omega⟩ (allc ⟨_, rfl, by omega, by omega⟩ alln))) fun d ⟨n0, e, hn1, hn2⟩ => ?_
    subst e
    walk_at "ws"
    have s11 : Sep (Ls p (bs.map .int) :: Rw w :: L) S10 := by walk_at "se"
    refine w_while (fun m env S => ∃ t : Nat, env = [some (.ref w), some (.ref p), some (.int c), some (.int i), some (.int ((n0 + t) % 1000))] ∧ Sep (Ls p (bs.map .int) :: Rw w :: L) S ∧ (∀ u : Nat, u < t → (n0 + u) % 1000 ∈ bs) ∧ t + m = 20) 20 ⟨0, ?_, s11, fun u hu => absurd hu (Nat.not_lt_zero _), rfl⟩ ?_
    · have e : (n0 + ((0 : Nat) : Int)) % 1000 = n0 := by omega
      rw [e]
    rintro m env S ⟨t, rfl, hs, hu, hm⟩
    have len : t ≤ bs.length := by
      have nd : ((List.range t).map fun u : Nat => (n0 + u) % 1000).Nodup := by
        have tl : t ≤ 20 := by omega
        refine List.pairwise_map.mpr (List.Pairwise.imp_of_mem (fun {a b} ha hb hlt e => ?_) List.pairwise_lt_range)
        have := List.mem_range.mp ha
        have := List.mem_range.mp hb
        omega
      have z := nodup_len (m := bs) nd fun x hx => by
        obtain ⟨u, h1, rfl⟩ := List.mem_map.mp hx
        exact hu u (List.mem_range.mp h1)
      rwa [List.length_map, List.length_range] at z
    walk_at "ws"
    refine cd (fun hin => ?_) fun hin => ?_
    · obtain ⟨m', rfl⟩ : ∃ m', m = m' + 1 := ⟨m - 1, by omega⟩
      refine ⟨m', rfl, ?_⟩
      walk_at "ws"
      refine inn ⟨t + 1, ?_, hs, fun u h => ?_, by omega⟩
      · have e : ((n0 + (t : Int)) % 1000 + 1) % 1000 = (n0 + ((t + 1 : Nat) : Int)) % 1000 := by omega
        rw [e]
      · by_cases q : u = t
        · rw [q]; exact hin
        · exact hu u (by omega)
    · have r := emod_rng (n0 + (t : Int)) (m := 1000) (by decide)
      generalize (n0 + (t : Int)) % 1000 = x at r hin
      walk_at "ws"
      rename_i S12 s12
      rw [map_snoc] at s12
      refine inn ⟨bs ++ [x], _, _, rfl, s12, ⟨?_, fun b hb => ?_⟩, by rw [List.length_append, List.length_singleton]; omega⟩
      · rw [List.nodup_append]
        refine ⟨ob.1, List.nodup_cons.mpr ⟨List.not_mem_nil, List.nodup_nil⟩, fun a ha b hb e => ?_⟩
        rw [List.mem_singleton.mp hb] at e
        exact hin (e ▸ ha)
      · rcases List.mem_append.mp hb with hb | hb
        · exact ob.2 b hb
        · rw [List.mem_singleton.mp hb]; exact ⟨r.1, r.2⟩
  · rintro env S ⟨bs, x, y, rfl, hs, ob, hl⟩
    walk_at "ws"
    exact h p bs S hs ob (by omega) (by omega)
end SW
local macro_rules | `(tactic| walk_at "call") => `(tactic| (refine bridges_ok (by omega) (by walk_at "sp1") fun p bs S' hs ob hb1 hb2 => ?_))
namespace SW
theorem cost_ok {k : Nat} (hk : 2 ≤ k) {w : Addr} {L : List HP} {S : Store} {Q : PQ} {E : PX} (hs : Sep (Rw w :: L) S) (h : ∀ (c : Int) S', Sep (Rw w :: L) S' → 1 ≤ c → c ≤ 1000 → Q (.int c) S') : run P0 T k f_law_cost [.ref w] S Q E := by
  refine run_succ (by omega) rfl rfl fun j hj => ?_
  walk_at "ws"
  rename_i r1 S1 s1 a1 a2 r2 S2 s2 b1 b2 p S3 s3 r3 S4 s4 c1 c2
  refine w_ixm (fun d => ∃ c : Int, d = .int c ∧ 1 ≤ c ∧ c ≤ 1000) (by walk_at "st") (by omega) (by assumption) (allc ⟨_, rfl, by omega, by omega⟩ (allc ⟨_, rfl, by omega, by omega⟩ (allc ⟨_, rfl, by omega, by omega⟩ (allc ⟨_, rfl, by omega, by omega⟩ alln)))) fun d ⟨c, e, hc1, hc2⟩ => ?_
  subst e
  exact h c _ (by walk_at "se") hc1 hc2
end SW
local macro_rules | `(tactic| walk_at "call") => `(tactic| (refine cost_ok (by omega) (by walk_at "sp1") fun c S' hs h0 h1 => ?_))
namespace SW
theorem ties_ok {k : Nat} (hk : 3 ≤ k) {w q : Addr} {bs : List Int} {L : List HP} {S : Store} {Q : PQ} {E : PX} (ob : BrOk bs) (hb1 : 1 ≤ bs.length) (hb2 : bs.length ≤ 10) (hs : Sep (Rw w :: Ls q (bs.map .int) :: L) S) (h : ∀ p (ts : List Ti) S', Sep (Ls p (ts.map Ti.D) :: Rw w :: Ls q (bs.map .int) :: L) S' → (∀ t ∈ ts, TiOk bs t) → ts.length ≤ 16 → Q (.ref p) S') : run P0 T k f_law_ties [.ref w, .ref q] S Q E := by
  refine run_succ (by omega) rfl rfl fun j hj => ?_
  walk_at "ws"
  rename_i p S1 s1 r1 S2 s2 a1 a2 p3 S3 s3 r2 S4 s4 b1 b2
  refine w_ixm (fun d => ∃ c : Int, d = .int c ∧ 0 ≤ c ∧ c ≤ 16) (by walk_at "st") (by omega) (by assumption) (allc ⟨_, rfl, by omega, by omega⟩ (allc ⟨_, rfl, by omega, by omega⟩ alln)) fun d ⟨c, e, hc1, hc2⟩ => ?_
  subst e
  have s5 : Sep (Ls p (([] : List Ti).map Ti.D) :: Rw w :: Ls q (bs.map .int) :: L) S4 := (show Sep (Ls p [] :: Rw w :: Ls q (bs.map .int) :: L) S4 by walk_at "se")
  clear s1 s2 s3 s4 hs
  walk_at "ws"
  have hm : c * (if decide (1 < (bs.length : Int)) = true then 1 else 0) ≤ 16 ∧ 0 ≤ c * (if decide (1 < (bs.length : Int)) = true then 1 else 0) ∧ (0 < c * (if decide (1 < (bs.length : Int)) = true then 1 else 0) → 1 < (bs.length : Int)) := by
    by_cases z : 1 < (bs.length : Int)
    · rw [decide_eq_true z, if_pos rfl]; omega
    · rw [decide_eq_false z, if_neg (by decide)]; omega
  generalize c * (if decide (1 < (bs.length : Int)) = true then 1 else 0) = hi at hm
  walk_at "ws"
  refine w_rng (fun i env S => ∃ (ts : List Ti) (x y z u : Option D), env = [some (.ref w), some (.ref q), some (.ref p), x, y, z, u] ∧ Sep (Ls p (ts.map Ti.D) :: Rw w :: Ls q (bs.map .int) :: L) S ∧ (∀ t ∈ ts, TiOk bs t) ∧ (ts.length : Int) = i) (by omega) ⟨[], _, _, _, _, rfl, s5, alln, rfl⟩ ?_ ?_
  · rintro i env S i0 i1 ⟨ts, x, y, z, u, rfl, hs, ot, hl⟩
    have two : 1 < (bs.length : Int) := hm.2.2 (by omega)
    have len : (bs.map D.int).length = bs.length := List.length_map _
    walk_at "ws"
    rename_i r3 S5 s5 c1 c2 r4 S6 s6 d1 d2
    rw [len] at c2 d2
    obtain ⟨m1, m2, m3⟩ := mod_wrap (n := (bs.length : Int)) c1 c2 (d := 1 + r4) (by omega) (by omega)
    refine w_ixA (by walk_at "st") c1 c2 fun va e1 va_in => ?_
    walk_at "ws"
    rw [Int.add_assoc]
    refine w_ixA (by walk_at "st") m2 m3 fun vb e2 vb_in => ?_
    have vne : va ≠ vb := nodup_get ob.1 e1 e2 (by omega)
    generalize (r3 + (1 + r4)) % (bs.length : Int) = to
    walk_at "ws"
    rename_i c S7 s7 f1 f2 p8 S8 s8
    have plT : ∀ ts : List Ti, plDs 1 (ts.map Ti.D) = true := fun ts => plDs_map fun x _ => rfl
    refine w_pd (.ls (by decide) (by walk_at "st") (plT ts)) (.ls (n := 1) (by decide) (xs := []) (by walk_at "st") rfl) ?_
    rw [eqv_ls (plT ts) (n := 1) (m := 1) rfl]
    walk_at "ws"
    have fin : ∀ (t : Ti) (x y z u : Option D) S', Sep (Cl p (.lst (ts.map Ti.D ++ [Ti.D t])) :: Rw w :: Ls q (bs.map .int) :: L) S' → TiOk bs t →
        ∃ (ts : List Ti) (x' y' z' u' : Option D), [some (.ref w), some (.ref q), some (.ref p), x, y, z, u] = [some (.ref w), some (.ref q), some (.ref p), x', y', z', u'] ∧ Sep (Ls p (ts.map Ti.D) :: Rw w :: Ls q (bs.map .int) :: L) S' ∧ (∀ t ∈ ts, TiOk bs t) ∧ (ts.length : Int) = i + 1 := by
      intro t x y z u S' s ok
      refine ⟨ts ++ [t], x, y, z, u, rfl, ?_, ?_, by rw [List.length_append, List.length_singleton]; omega⟩
      · rw [← map_snoc]
        exact s
      · intro t' h'
        rcases List.mem_append.mp h' with h' | h'
        · exact ot t' h'
        · rw [List.mem_singleton.mp h']; exact ok
    have tok : TiOk bs ⟨va, vb, c⟩ := ⟨va_in, vb_in, vne, f1, f2⟩
    refine cdn (fun ne => ?_) fun emp => ?_
    · walk_at "ws"
      rename_i r5 S9 s9 g1 g2
      refine cd (fun z => ?_) fun z => ?_
      · have tl : 0 < (ts.length : Int) := by
          cases ts with
          | nil => exact absurd rfl ne
          | cons _ _ => rw [List.length_cons]; omega
        have lent : (ts.map Ti.D).length = ts.length := List.length_map _
        walk_at "ws"
        rename_i r6 S10 s10 i1 i2
        rw [lent] at i2
        refine w_ixA (by walk_at "st") i1 i2 fun t6 e6 t6_in => ?_
        obtain ⟨o1, o2, o3, o4, o5⟩ := ot t6 t6_in
        walk_at "ws"
        rename_i c2 S11 s11 j1 j2 p12 S12 s12 r13 S13 s13 k1 k2
        refine w_ixm (fun d => ∃ t : Ti, d = t.D ∧ TiOk bs t) (by walk_at "st") (by omega) (by assumption) (allc ⟨t6, rfl, o1, o2, o3, o4, o5⟩ (allc ⟨⟨t6.b, t6.a, t6.c⟩, rfl, o2, o1, Ne.symm o3, o4, o5⟩ (allc ⟨⟨t6.a, t6.b, c2⟩, rfl, o1, o2, o3, j1, j2⟩ alln))) fun d ⟨t7, e7, ok7⟩ => ?_
        subst e7
        walk_at "ws"
        rename_i S14 s14
        exact inn (fin t7 _ _ _ _ _ (by walk_at "se") ok7)
      · walk_at "ws"
        rename_i S14 s14
        exact inn (fin ⟨va, vb, c⟩ _ _ _ _ _ (by walk_at "se") tok)
    · walk_at "ws"
      rename_i S14 s14
      exact inn (fin ⟨va, vb, c⟩ _ _ _ _ _ (by walk_at "se") tok)
  · rintro env S ⟨ts, x, y, z, u, rfl, hs, ot, hl⟩
    walk_at "ws"
    exact h p ts S hs ot (by omega)
end SW
local macro_rules | `(tactic| walk_at "call") => `(tactic| (refine ties_ok (by omega) (by assumption) (by omega) (by omega) (by walk_at "sp2") fun p ts S' hs ot hl => ?_))
/-! ### what is due of a net -/
namespace SW
theorem due_ok {k : Nat} (hk : 3 ≤ k) {p q : Addr} {bs : List Int} {ts : List Ti} {L : List HP} {S : Store} {Q : PQ} {E : PX} (hs : Sep (Ls p (bs.map .int) :: Ls q (ts.map Ti.D) :: L) S) (hl : ts.length ≤ 16) (h : ∀ S', Sep (Ls p (bs.map .int) :: Ls q (ts.map Ti.D) :: L) S' → Q (mkNet bs ts).D S') : run P0 T k f_law_due [.ref p, .ref q] S Q E := by
  refine run_succ (by omega) rfl rfl fun j hj => ?_
  walk_at "ws"
  rename_i p2 S2 s2 p3 S3 s3
  refine w_compB (fun t : Ti => t.norm.D) s3 (by omega) (fun S z => by walk_at "st") (fun k t acc S e hm s => ?_) fun S4 s4 => ?_
  · refine ⟨_, rfl, ?_⟩
    walk_at "ws"
    refine ⟨by decide, fun m hm hle => ?_⟩
    obtain rfl := min2 hm hle
    walk_at "ws"
    refine ⟨by decide, fun m hm hle => ?_⟩
    obtain rfl := max2 hm hle
    walk_at "ws"
    exact inn ⟨by trivial, by walk_at "se"⟩
  · walk_at "ws"
    have e : (ts.map fun t => t.norm.D) = (ts.map Ti.norm).map Ti.D := by rw [List.map_map]; rfl
    rw [e] at s4 ⊢
    exact h S4 (by walk_at "se")
end SW
local macro_rules | `(tactic| walk_at "call") => `(tactic| (refine due_ok (by omega) (by walk_at "sp2") (by omega) fun S' hs => ?_))
/-! ### alike: numbers, None, tuples -/
namespace SW
def plN : Nat → D → Bool
  | _, .int _ => true
  | _, .non => true
  | n + 1, .tup xs => decide (xs.length ≤ 1000) && xs.all (plN n)
  | _, _ => false
theorem same_ok : ∀ (n : Nat) {k : Nat}, n + 1 ≤ k → ∀ {x : D} {L : List HP} {S : Store} {Q : PQ} {E : PX}, plN n x = true → Sep L S → (∀ S', Sep L S' → Q (.bl true) S') → run P0 T k f_law_same [x, x] S Q E := by
  intro n
  induction n with
  | zero =>
    intro k hk x L S Q E hx hs h
    refine run_succ (by omega) rfl rfl fun j hj => ?_
    cases x <;> first | (simp only [plN, Bool.false_eq_true] at hx; done) | skip
    · walk_at "ws"
      exact h S hs
    · walk_at "ws"
      exact h S hs
  | succ n ih =>
    intro k hk x L S Q E hx hs h
    refine run_succ (by omega) rfl rfl fun j hj => ?_
    cases x <;> first | (simp only [plN, Bool.false_eq_true] at hx; done) | skip
    · walk_at "ws"
      exact h S hs
    · walk_at "ws"
      exact h S hs
    · rename_i xs
      simp only [plN, Bool.and_eq_true, decide_eq_true_eq, List.all_eq_true] at hx
      obtain ⟨hl, hx⟩ := hx
      walk_at "ws"
      rename_i p S1 s1
      refine w_compF (fun _ => false) id s1 (by rw [rng_len]; omega) (fun _ _ => trivial) (fun k d acc S e hm s => ?_) fun S2 s2 => ?_
      · obtain ⟨rfl, e2⟩ := rng_get e
        refine ⟨_, rfl, ?_⟩
        walk_at "ws"
        refine w_ixi (by omega) (by omega) fun d1 e1 => ?_
        walk_at "ws"
        refine w_ixi (by omega) (by omega) fun d2 e2 => ?_
        rw [e1] at e2
        cases e2
        walk_at "ws"
        refine ih (by omega) (hx _ (List.mem_of_getElem? e1)) s fun S3 s3 => ?_
        walk_at "ws"
        exact inn ⟨by trivial, by walk_at "se"⟩
      · have e : ((rngL 0 (xs.length : Int)).filter fun _ => false) = [] := List.filter_eq_nil_iff.mpr fun _ _ => Bool.false_ne_true
        rw [e] at s2
        have s2 : Sep (Ls p [] :: L) S2 := s2
        walk_at "ws"
        refine w_pd (.ls (n := 1) (xs := []) (by decide) (by walk_at "st") rfl) (.ls (n := 1) (by decide) (xs := []) (by walk_at "st") rfl) ?_
        walk_at "ws"
        exact h _ (by walk_at "se")
theorem plN_D : ∀ (n : Nat) (x : D), plN n x = true → plD n x = true := by
  intro n
  induction n with
  | zero => intro x h; cases x <;> first | rfl | (simp only [plN, Bool.false_eq_true] at h)
  | succ n ih =>
    intro x h
    cases x with
    | tup xs =>
      simp only [plN, Bool.and_eq_true, List.all_eq_true] at h
      show plDs n xs = true
      exact plDs_all fun y hy => ih y (h.2 y hy)
    | non => rfl
    | int i => rfl
    | _ => simp only [plN, Bool.false_eq_true] at h
end SW
namespace SW
theorem same_list : ∀ (n : Nat) {k : Nat}, n + 2 ≤ k → ∀ {p q : Addr} {xs : List D} {L : List HP} {S : Store} {Q : PQ} {E : PX}, (∀ x ∈ xs, plN n x = true) → xs.length ≤ 1000 → Sep (Ls p xs :: Ls q xs :: L) S → (∀ S', Sep (Ls p xs :: Ls q xs :: L) S' → Q (.bl true) S') → run P0 T k f_law_same [.ref p, .ref q] S Q E := by
  intro n k hk p q xs L S Q E hx hl hs h
  refine run_succ (by omega) rfl rfl fun j hj => ?_
  walk_at "ws"
  rename_i p3 S1 s1
  refine w_compF (fun _ => false) id s1 (by rw [rng_len]; omega) (fun _ _ => trivial) (fun k d acc S e hm s => ?_) fun S2 s2 => ?_
  · obtain ⟨rfl, e2⟩ := rng_get e
    refine ⟨_, rfl, ?_⟩
    walk_at "ws"
    refine w_ixD (by walk_at "st") (by omega) (by omega) fun d1 e1 => ?_
    walk_at "ws"
    refine w_ixD (by walk_at "st") (by omega) (by omega) fun d2 e2 => ?_
    rw [e1] at e2
    cases e2
    walk_at "ws"
    refine same_ok n (by omega) (hx _ (List.mem_of_getElem? e1)) s fun S3 s3 => ?_
    walk_at "ws"
    exact inn ⟨by trivial, by walk_at "se"⟩
  · have e : ((rngL 0 (xs.length : Int)).filter fun _ => false) = [] := List.filter_eq_nil_iff.mpr fun _ _ => Bool.false_ne_true
    rw [e] at s2
    have s2 : Sep (Ls p3 [] :: Ls p xs :: Ls q xs :: L) S2 := s2
    walk_at "ws"
    refine w_pd (.ls (n := 1) (xs := []) (by decide) (by walk_at "st") rfl) (.ls (n := 1) (by decide) (xs := []) (by walk_at "st") rfl) ?_
    walk_at "ws"
    exact h _ (by walk_at "se")
end SW
namespace SW
/-- the lines of a net's text -/
def brL (b : Int) : List Nat := [98, 114, 105, 100, 103, 101, 32] ++ (TL.numL b.toNat ++ [10])
def tiL (t : Ti) : List Nat := [116, 105, 101, 32] ++ (TL.numL t.a.toNat ++ ([32] ++ (TL.numL t.b.toNat ++ ([32] ++ (TL.numL t.c.toNat ++ [10])))))
def NtOk (n : Nt) : Prop := n.bs.length ≤ 10 ∧ n.ts.length ≤ 16 ∧ (∀ b ∈ n.bs, 0 ≤ b ∧ b ≤ 999) ∧ ∀ t ∈ n.ts, (0 ≤ t.a ∧ t.a ≤ 999) ∧ (0 ≤ t.b ∧ t.b ≤ 999) ∧ (0 ≤ t.c ∧ t.c ≤ 1000)
def ntL (n : Nt) : List Nat := (n.bs.map brL ++ n.ts.map tiL).flatten
theorem joinL_nil : ∀ ls : List (List Nat), TL.joinL [] ls = ls.flatten
  | [] => rfl
  | [l] => by simp [TL.joinL]
  | l :: m :: r => by
    show l ++ ([] ++ TL.joinL [] (m :: r)) = _
    rw [joinL_nil (m :: r)]
    simp
theorem strs_txs (ls : List (List Nat)) : strsOf (ls.map fun l => D.str (tx l)) = some (ls.map tx) := strs_tx ls
theorem sum_txs {b : Nat} : ∀ ls : List (List Nat), (∀ l ∈ ls, l.length ≤ b) → ((ls.map tx).map (fun x => x.length)).sum ≤ ls.length * b
  | [], _ => Nat.zero_le _
  | l :: ls, h => by
    have ih := sum_txs ls fun x hx => h x (List.mem_cons_of_mem _ hx)
    have h0 := h l List.mem_cons_self
    rw [List.map_cons, List.map_cons, List.sum_cons, tx_len, List.length_cons, Nat.succ_mul]
    omega
theorem numL_4 {n : Nat} (h : n ≤ 1000) : (TL.numL n).length ≤ 4 := TL.numL_len (by decide) (Nat.lt_of_le_of_lt h (by decide))
theorem lt40 {n : Nat} (h : n ≤ 1000) : n < 10 ^ 40 := Nat.lt_of_le_of_lt h (by decide)
theorem show_net_ok {k : Nat} (hk : 1 ≤ k) {n : Nt} {L : List HP} {S : Store} {Q : PQ} {E : PX} (hs : Sep L S) (o : NtOk n) (h : ∀ S', Sep L S' → Q (.str (tx (ntL n))) S') : run P0 T k f_show_net [n.D] S Q E := by
  obtain ⟨lb, lt, hb, ht⟩ := o
  refine run_succ hk rfl rfl fun j hj => ?_
  walk_at "ws"
  rename_i p S1 s1
  refine w_compB (fun b => .str (tx (brL b))) s1 (by omega) (fun _ _ => trivial) (fun i x acc S hx mx s2 => ?_) fun S2 s2 => ?_
  · refine ⟨_, rfl, ?_⟩
    obtain ⟨b0, b1⟩ := hb x mx
    obtain ⟨m, rfl⟩ : ∃ m : Nat, x = m := ⟨x.toNat, by omega⟩
    have q1 : m < 10 ^ 40 := lt40 (by omega)
    have q2 := numL_4 (n := m) (by omega)
    walk_at "ws"
    refine inn ⟨?_, s2⟩
    unfold brL
    rw [Int.toNat_natCast]
    simp only [List.append_assoc, List.cons_append, List.nil_append]
  · walk_at "ws"
    refine w_for (fun i env S => ∃ (x2 x3 x4 x5 : Option D), env = [some n.D, some (.ref p), x2, x3, x4, x5] ∧ Sep (Ls p ((n.bs.map brL ++ (n.ts.take i).map tiL).map fun l => .str (tx l)) :: L) S) ⟨_, _, _, _, rfl, ?_⟩ (fun _ _ _ _ => trivial) ?_ ?_
    · rw [List.take_zero, List.map_nil, List.append_nil, List.map_map]
      exact s2
    · rintro i d env S hd ⟨x2, x3, x4, x5, rfl, hs⟩
      rw [List.getElem?_map] at hd
      cases hx : n.ts[i]? with
      | none => rw [hx] at hd; cases hd
      | some u =>
      rw [hx] at hd
      cases hd
      obtain ⟨⟨a0, a1⟩, ⟨b0, b1⟩, c0, c1⟩ := ht u (List.mem_of_getElem? hx)
      obtain ⟨a, b, c⟩ := u
      dsimp only at a0 a1 b0 b1 c0 c1
      obtain ⟨a, rfl⟩ : ∃ m : Nat, a = m := ⟨a.toNat, by omega⟩
      obtain ⟨b, rfl⟩ : ∃ m : Nat, b = m := ⟨b.toNat, by omega⟩
      obtain ⟨c, rfl⟩ : ∃ m : Nat, c = m := ⟨c.toNat, by omega⟩
      have qa : a < 10 ^ 40 := lt40 (by omega)
      have qb : b < 10 ^ 40 := lt40 (by omega)
      have qc : c < 10 ^ 40 := lt40 (by omega)
      have la := numL_4 (n := a) (by omega)
      have lb' := numL_4 (n := b) (by omega)
      have lc := numL_4 (n := c) (by omega)
      have li : (n.ts.take i).length ≤ 16 := Nat.le_trans (List.length_take_le' ..) lt
      refine ⟨_, rfl, ?_⟩
      walk_at "ws"
      rename_i S3 s3
      refine inn ⟨_, _, _, _, rfl, ?_⟩
      rw [take_snoc hx]
      unfold tiL
      simp only [List.map_append, List.map_cons, List.map_nil, List.append_assoc, List.cons_append, List.nil_append, Int.toNat_natCast] at s3 ⊢
      exact s3
    · rintro env S ⟨x2, x3, x4, x5, rfl, hs⟩
      rw [List.length_map, List.take_length] at hs
      have hl : ∀ l ∈ n.bs.map brL ++ n.ts.map tiL, l.length ≤ 30 := fun l hl => by
        rcases List.mem_append.mp hl with hl | hl
        · obtain ⟨x, hx, rfl⟩ := List.mem_map.mp hl
          have b := hb x hx
          have q := numL_4 (n := x.toNat) (by omega)
          unfold brL
          simp only [List.length_append, List.length_cons, List.length_nil]
          omega
        · obtain ⟨x, hx, rfl⟩ := List.mem_map.mp hl
          obtain ⟨a, b, c⟩ := ht x hx
          have q1 := numL_4 (n := x.a.toNat) (by omega)
          have q2 := numL_4 (n := x.b.toNat) (by omega)
          have q3 := numL_4 (n := x.c.toNat) (by omega)
          unfold tiL
          simp only [List.length_append, List.length_cons, List.length_nil]
          omega
      have ll : (n.bs.map brL ++ n.ts.map tiL).length ≤ 26 := by rw [List.length_append, List.length_map, List.length_map]; omega
      have eq : ntL n = (n.bs.map brL ++ n.ts.map tiL).flatten := rfl
      rw [eq] at h
      generalize n.bs.map brL ++ n.ts.map tiL = ls at *
      walk_at "ws"
      refine ⟨_, _, seq_ref (by walk_at "st"), strs_txs ls, ?_, ?_⟩
      · have z := sum_txs ls hl
        have e0 : (tx []).length = 0 := rfl
        rw [e0]
        omega
      · rw [tx_join, joinL_nil]
        exact h S (by walk_at "se")
end SW
local macro_rules | `(tactic| walk_at "call") => `(tactic| (refine show_net_ok (by omega) (by assumption) (by assumption) fun S' hs => ?_))
namespace SW
theorem flat_len {b : Nat} : ∀ ls : List (List Nat), (∀ l ∈ ls, l.length ≤ b) → ls.flatten.length ≤ ls.length * b
  | [], _ => Nat.zero_le _
  | l :: ls, h => by
    have ih := flat_len ls fun x hx => h x (List.mem_cons_of_mem _ hx)
    have h0 := h l List.mem_cons_self
    rw [List.flatten_cons, List.length_append, List.length_cons, Nat.succ_mul]
    omega
theorem brL_len {x : Int} (h : x ≤ 999) : (brL x).length ≤ 30 := by
  have q := numL_4 (n := x.toNat) (by omega)
  unfold brL
  simp only [List.length_append, List.length_cons, List.length_nil]
  omega
theorem tiL_len {x : Ti} (h1 : x.a ≤ 999) (h2 : x.b ≤ 999) (h3 : x.c ≤ 1000) : (tiL x).length ≤ 30 := by
  have q1 := numL_4 (n := x.a.toNat) (by omega)
  have q2 := numL_4 (n := x.b.toNat) (by omega)
  have q3 := numL_4 (n := x.c.toNat) (by omega)
  unfold tiL
  simp only [List.length_append, List.length_cons, List.length_nil]
  omega
theorem written_ok {k : Nat} (hk : 1 ≤ k) {n : Nt} {L : List HP} {S : Store} {Q : PQ} {E : PX} (hs : Sep L S) (o : NtOk n) (h : ∀ S', Sep L S' → Q (.str (tx (ntL n))) S') : run P0 T k f_law_written [n.D] S Q E := by
  obtain ⟨lb, lt, hb, ht⟩ := o
  refine run_succ hk rfl rfl fun j hj => ?_
  walk_at "ws"
  refine w_for (fun i env S => ∃ (x2 x3 x4 x5 : Option D), env = [some n.D, some (.str (tx ((n.bs.take i).map brL).flatten)), x2, x3, x4, x5] ∧ Sep L S) ⟨_, _, _, _, rfl, hs⟩ (fun _ _ _ _ => trivial) ?_ ?_
  · rintro i d env S hd ⟨x2, x3, x4, x5, rfl, hs⟩
    rw [List.getElem?_map] at hd
    cases hx : n.bs[i]? with
    | none => rw [hx] at hd; cases hd
    | some u =>
    rw [hx] at hd
    cases hd
    have hm := List.mem_of_getElem? hx
    obtain ⟨b0, b1⟩ := hb u hm
    obtain ⟨m, rfl⟩ : ∃ m : Nat, u = m := ⟨u.toNat, by omega⟩
    have q1 : m < 10 ^ 40 := lt40 (by omega)
    have q2 := numL_4 (n := m) (by omega)
    have fl := flat_len (b := 30) ((n.bs.take i).map brL) fun l hl => by
      obtain ⟨x, hx, rfl⟩ := List.mem_map.mp hl
      exact brL_len (hb x (List.mem_of_mem_take hx)).2
    have li : (n.bs.take i).length ≤ 10 := Nat.le_trans (List.length_take_le' ..) lb
    rw [List.length_map] at fl
    have fl2 : ((n.bs.take i).map brL).flatten.length ≤ 300 := by omega
    clear fl
    rw [take_snoc hx, List.map_append, List.flatten_append]
    generalize ((n.bs.take i).map brL).flatten = T at *
    refine ⟨_, rfl, ?_⟩
    walk_at "ws"
    have e : (((T ++ [98, 114, 105, 100, 103, 101, 32]) ++ TL.numL m) ++ [10]) = T ++ ([(m : Int)].map brL).flatten := by
      unfold brL
      simp only [List.map_cons, List.map_nil, List.flatten_cons, List.flatten_nil, List.append_nil, Int.toNat_natCast, List.append_assoc]
    rw [e]
    exact inn ⟨_, _, _, _, rfl, hs⟩
  · rintro env S ⟨x2, x3, x4, x5, rfl, hs⟩
    walk_at "ws"
    rw [List.take_length]
    refine w_for (fun i env S => ∃ (x2 x3 x4 x5 : Option D), env = [some n.D, some (.str (tx ((n.bs.map brL).flatten ++ ((n.ts.take i).map tiL).flatten))), x2, x3, x4, x5] ∧ Sep L S) ⟨_, _, _, _, by rw [List.take_zero, List.map_nil, List.flatten_nil, List.append_nil], hs⟩ (fun _ _ _ _ => trivial) ?_ ?_
    · rintro i d env S hd ⟨x2, x3, x4, x5, rfl, hs⟩
      rw [List.getElem?_map] at hd
      cases hx : n.ts[i]? with
      | none => rw [hx] at hd; cases hd
      | some u =>
      rw [hx] at hd
      cases hd
      obtain ⟨⟨a0, a1⟩, ⟨b0, b1⟩, c0, c1⟩ := ht u (List.mem_of_getElem? hx)
      have fl1 := flat_len (b := 30) (n.bs.map brL) fun l hl => by
        obtain ⟨x, hx, rfl⟩ := List.mem_map.mp hl
        exact brL_len (hb x hx).2
      have fl2 := flat_len (b := 30) ((n.ts.take i).map tiL) fun l hl => by
        obtain ⟨x, hx, rfl⟩ := List.mem_map.mp hl
        obtain ⟨a, b, c⟩ := ht x (List.mem_of_mem_take hx)
        exact tiL_len a.2 b.2 c.2
      have li : (n.ts.take i).length ≤ 16 := Nat.le_trans (List.length_take_le' ..) lt
      rw [List.length_map] at fl1 fl2
      rw [take_snoc hx, List.map_append, List.flatten_append, ← List.append_assoc]
      have fl3 : ((n.bs.map brL).flatten ++ ((n.ts.take i).map tiL).flatten).length ≤ 780 := by rw [List.length_append]; omega
      clear fl1 fl2
      generalize (n.bs.map brL).flatten ++ ((n.ts.take i).map tiL).flatten = T at *
      obtain ⟨a, b, c⟩ := u
      dsimp only at a0 a1 b0 b1 c0 c1
      obtain ⟨a, rfl⟩ : ∃ m : Nat, a = m := ⟨a.toNat, by omega⟩
      obtain ⟨b, rfl⟩ : ∃ m : Nat, b = m := ⟨b.toNat, by omega⟩
      obtain ⟨c, rfl⟩ : ∃ m : Nat, c = m := ⟨c.toNat, by omega⟩
      have qa : a < 10 ^ 40 := lt40 (by omega)
      have qb : b < 10 ^ 40 := lt40 (by omega)
      have qc : c < 10 ^ 40 := lt40 (by omega)
      have la := numL_4 (n := a) (by omega)
      have lb' := numL_4 (n := b) (by omega)
      have lc := numL_4 (n := c) (by omega)
      refine ⟨_, rfl, ?_⟩
      walk_at "ws"
      rename_i p3 S3 s3
      have ey : ([tx [116, 105, 101], tx (TL.numL a), tx (TL.numL b), tx (TL.numL c)] : List Str) = ([[116, 105, 101], TL.numL a, TL.numL b, TL.numL c] : List (List Nat)).map tx := rfl
      refine ⟨_, ([[116, 105, 101], TL.numL a, TL.numL b, TL.numL c] : List (List Nat)).map tx, seq_ref (by walk_at "st"), rfl, ?_, ?_⟩
      · have z := sum_txs (b := 4) [[116, 105, 101], TL.numL a, TL.numL b, TL.numL c] (allc (by decide) (allc la (allc lb' (allc lc alln))))
        have e1 : (tx [32]).length = 1 := rfl
        rw [e1, List.length_map]
        simp only [List.length_cons, List.length_nil] at z ⊢
        omega
      · rw [tx_join]
        have ej : TL.joinL [32] [[116, 105, 101], TL.numL a, TL.numL b, TL.numL c] = [116, 105, 101] ++ ([32] ++ (TL.numL a ++ ([32] ++ (TL.numL b ++ ([32] ++ TL.numL c))))) := rfl
        rw [ej]
        walk_at "ws"
        have e : ((T ++ ([116, 105, 101] ++ ([32] ++ (TL.numL a ++ ([32] ++ (TL.numL b ++ ([32] ++ TL.numL c))))))) ++ [10]) = T ++ [tiL (⟨a, b, c⟩ : Ti)].flatten := by
          unfold tiL
          simp only [List.map_cons, List.map_nil, List.flatten_cons, List.flatten_nil, List.append_nil, Int.toNat_natCast, List.append_assoc, List.cons_append, List.nil_append]
        exact inn ⟨x2, some (.int a), some (.int b), some (.int c), by rw [← e]; rfl, by walk_at "se"⟩
    · rintro env S ⟨x2, x3, x4, x5, rfl, hs⟩
      rw [List.length_map, List.take_length]
      walk_at "ws"
      have e : (n.bs.map brL).flatten ++ (n.ts.map tiL).flatten = ntL n := by unfold ntL; rw [List.flatten_append]
      rw [e]
      exact h S hs
end SW
local macro_rules | `(tactic| walk_at "call") => `(tactic| (refine written_ok (by omega) (by assumption) (by assumption) fun S' hs => ?_))
namespace SW
def dig (c : Nat) : Bool := decide (48 ≤ c) && decide (c ≤ 57)
theorem fg_dig (c : Nat) : decide (c ∈ [48, 49, 50, 51, 52, 53, 54, 55, 56, 57]) = dig c := by
  unfold dig
  by_cases h : 48 ≤ c ∧ c ≤ 57
  · rw [decide_eq_true h.1, decide_eq_true h.2]
    refine decide_eq_true ?_
    have e : c = 48 ∨ c = 49 ∨ c = 50 ∨ c = 51 ∨ c = 52 ∨ c = 53 ∨ c = 54 ∨ c = 55 ∨ c = 56 ∨ c = 57 := by omega
    rcases e with e | e | e | e | e | e | e | e | e | e <;> subst e <;> decide
  · have z : (decide (48 ≤ c) && decide (c ≤ 57)) = false := by
      rw [← Bool.decide_and]
      exact decide_eq_false h
    rw [z]
    refine decide_eq_false fun hm => h ?_
    simp only [List.mem_cons, List.not_mem_nil, or_false] at hm
    omega
theorem number_in_ok {k : Nat} (hk : 1 ≤ k) {m : Nat} {L : List HP} {S : Store} {Q : PQ} {E : PX} (hs : Sep L S) (hm : m ≤ 1000) (hd : ∀ c ∈ TL.numL m, dig c = true) (hn : TL.numL m ≠ []) (h : ∀ S', Sep L S' → Q (.int m) S') : run P0 T k f_number_in [.str (tx (TL.numL m))] S Q E := by
  have l4 := numL_4 hm
  have l1 : 1 ≤ (TL.numL m).length := List.length_pos_iff.mpr hn
  have eI : intText? (tx (TL.numL m)) = some (m : Int) := by rw [← tx_num]; exact TL.int_num (Nat.le_trans l4 (by decide))
  refine run_succ hk rfl rfl fun j hj => ?_
  generalize TL.numL m = l at *
  walk_at "ws"
  refine w_for (fun i env S => (∃ z, env = [some (.str (tx l)), z]) ∧ Sep L S) ⟨⟨_, rfl⟩, hs⟩ (fun _ _ _ _ => trivial) ?_ ?_
  · rintro i d env S hx ⟨⟨z, rfl⟩, hs⟩
    rw [tx_list, List.getElem?_map] at hx
    cases hc : l[i]? with
    | none => rw [hc] at hx; cases hx
    | some x =>
      rw [hc] at hx
      cases hx
      refine ⟨_, rfl, ?_⟩
      walk_at "ws"
      rw [tx_one, tx_in, fg_dig x, hd x (List.mem_of_getElem? hc)]
      walk_at "ws"
      exact inn ⟨⟨_, rfl⟩, hs⟩
  · rintro env S ⟨⟨z, rfl⟩, hs⟩
    walk_at "ws"
    refine ⟨_, eI, ?_, h S hs⟩
    rw [tx_len]
    exact Nat.le_trans l4 (by decide)
end SW
namespace SW
theorem numL_all (n : Nat) : ∀ c ∈ TL.numL n, dig c = true := by
  intro c hc
  have z := TL.numL_digits n c hc
  unfold dig
  rw [Bool.and_eq_true, decide_eq_true_eq, decide_eq_true_eq]
  exact z
end SW
local macro_rules | `(tactic| walk_at "call") => `(tactic| (refine number_in_ok (by omega) (by assumption) (by omega) (numL_all _) (TL.numL_ne _) fun S' hs => ?_))
namespace SW
def brB (b : Int) : List Nat := [98, 114, 105, 100, 103, 101] ++ ([32] ++ TL.numL b.toNat)
def tiB (t : Ti) : List Nat := [116, 105, 101] ++ ([32] ++ (TL.numL t.a.toNat ++ ([32] ++ (TL.numL t.b.toNat ++ ([32] ++ TL.numL t.c.toNat)))))
theorem brL_B (b : Int) : brL b = brB b ++ [10] := by
  unfold brL brB
  simp only [List.append_assoc, List.cons_append, List.nil_append]
theorem tiL_B (t : Ti) : tiL t = tiB t ++ [10] := by
  unfold tiL tiB
  simp only [List.append_assoc, List.cons_append, List.nil_append]
theorem num_free {n : Nat} : 10 ∉ TL.numL n := TL.numL_free (by decide)
theorem brB_free (b : Int) : 10 ∉ brB b := by
  intro m
  unfold brB at m
  rcases List.mem_append.mp m with m | m
  · exact absurd m (by decide)
  · rcases List.mem_append.mp m with m | m
    · exact absurd m (by decide)
    · exact num_free m
theorem tiB_free (t : Ti) : 10 ∉ tiB t := by
  intro m
  unfold tiB at m
  rcases List.mem_append.mp m with m | m
  · exact absurd m (by decide)
  · rcases List.mem_append.mp m with m | m
    · exact absurd m (by decide)
    · rcases List.mem_append.mp m with m | m
      · exact num_free m
      · rcases List.mem_append.mp m with m | m
        · exact absurd m (by decide)
        · rcases List.mem_append.mp m with m | m
          · exact num_free m
          · rcases List.mem_append.mp m with m | m
            · exact absurd m (by decide)
            · exact num_free m
theorem spl_lines : ∀ {ls : List (List Nat)}, (∀ l ∈ ls, 10 ∉ l) → TL.spl [10] 0 [] (ls.map fun l => l ++ [10]).flatten = ls ++ [[]]
  | [], _ => rfl
  | l :: ls, h => by
    have e : ((l :: ls).map fun l => l ++ [10]).flatten = l ++ ([10] ++ (ls.map fun l => l ++ [10]).flatten) := by
      rw [List.map_cons, List.flatten_cons, List.append_assoc]
    rw [e, TL.spl_part1 (s := 10) (S := []) (h l List.mem_cons_self), spl_lines fun y hy => h y (List.mem_cons_of_mem _ hy)]
    rfl
def ntB (n : Nt) : List (List Nat) := n.bs.map brB ++ n.ts.map tiB
theorem ntL_B (n : Nt) : ntL n = ((ntB n).map fun l => l ++ [10]).flatten := by
  unfold ntL ntB
  rw [List.map_append, List.map_map, List.map_map]
  have e1 : n.bs.map brL = n.bs.map ((fun l => l ++ [10]) ∘ brB) := List.map_congr_left fun x _ => brL_B x
  have e2 : n.ts.map tiL = n.ts.map ((fun l => l ++ [10]) ∘ tiB) := List.map_congr_left fun x _ => tiL_B x
  rw [e1, e2]
theorem ntB_free (n : Nt) : ∀ l ∈ ntB n, 10 ∉ l := fun l hl => by
  unfold ntB at hl
  rcases List.mem_append.mp hl with hl | hl
  · obtain ⟨x, _, rfl⟩ := List.mem_map.mp hl
    exact brB_free x
  · obtain ⟨x, _, rfl⟩ := List.mem_map.mp hl
    exact tiB_free x
theorem brB_spl (m : Nat) : Txt.split (tx (brB m)) (tx [32]) = [[98, 114, 105, 100, 103, 101], TL.numL m].map tx := by
  rw [tx_split (by decide) (by decide)]
  have e : TL.spl [32] 0 [] (brB m) = [[98, 114, 105, 100, 103, 101], TL.numL m] := TL.spl_join (s := 32) (S := []) (parts := [[98, 114, 105, 100, 103, 101], TL.numL m]) (by simp) (allc (by decide) (allc (TL.numL_free (by decide)) alln))
  rw [e]
theorem tiB_spl (a b c : Nat) : Txt.split (tx (tiB ⟨a, b, c⟩)) (tx [32]) = [[116, 105, 101], TL.numL a, TL.numL b, TL.numL c].map tx := by
  rw [tx_split (by decide) (by decide)]
  have e : TL.spl [32] 0 [] (tiB ⟨a, b, c⟩) = [[116, 105, 101], TL.numL a, TL.numL b, TL.numL c] := TL.spl_join (s := 32) (S := []) (parts := [[116, 105, 101], TL.numL a, TL.numL b, TL.numL c]) (by simp) (allc (by decide) (allc (TL.numL_free (by decide)) (allc (TL.numL_free (by decide)) (allc (TL.numL_free (by decide)) alln))))
  rw [e]
theorem cut_last {α : Type} (l : List α) (d : α) : cutL (l ++ [d]) none (some (-1)) = l := by
  unfold cutL
  have e : HT.sIx (l ++ [d]).length (l ++ [d]).length (some (-1)) = l.length := by
    unfold HT.sIx
    dsimp only
    rw [if_pos (show (-1 : Int) < 0 by decide), List.length_append, List.length_singleton]
    omega
  rw [e]
  show List.take (l.length - 0) (List.drop 0 (l ++ [d])) = l
  simp
theorem ntL_len {n : Nt} (o : NtOk n) : (ntL n).length ≤ 780 := by
  obtain ⟨lb, lt, hb, ht⟩ := o
  have fl := flat_len (b := 30) (n.bs.map brL ++ n.ts.map tiL) fun l hl => by
    rcases List.mem_append.mp hl with hl | hl
    · obtain ⟨x, hx, rfl⟩ := List.mem_map.mp hl
      exact brL_len (hb x hx).2
    · obtain ⟨x, hx, rfl⟩ := List.mem_map.mp hl
      obtain ⟨a, b, c⟩ := ht x hx
      exact tiL_len a.2 b.2 c.2
  rw [List.length_append, List.length_map, List.length_map] at fl
  show (n.bs.map brL ++ n.ts.map tiL).flatten.length ≤ 780
  omega
theorem read_net_ok {k : Nat} (hk : 5 ≤ k) {n : Nt} {L : List HP} {S : Store} {Q : PQ} {E : PX} (hs : Sep L S) (o : NtOk n) (ob : BrOk n.bs) (srt : n.bs.Pairwise (· ≤ ·)) (l1 : 1 ≤ n.bs.length) (ot : ∀ t ∈ n.ts, TiOk n.bs t ∧ t.norm = t) (h : ∀ S', Sep L S' → Q n.D S') : run P0 T k f_read_net [.str (tx (ntL n))] S Q E := by
  have ll := ntL_len o
  have es : (Txt.split (tx (ntL n)) (tx [10])).map D.str = (ntB n ++ [[]]).map fun l => D.str (tx l) := by
    rw [tx_split (by decide) (by decide), ntL_B, spl_lines (ntB_free n), List.map_map]
    rfl
  refine run_succ (by omega) rfl rfl fun j hj => ?_
  walk_at "ws"
  rename_i p1 S1 s1 p2 S2 s2 p3 S3 s3 p4 S4 s4
  have ec : cutL ((Txt.split (tx (ntL n)) (tx [10])).map D.str) none (some (-1)) = (ntB n).map fun l => D.str (tx l) := by
    rw [es, List.map_append]
    exact cut_last _ _
  rw [ec] at s4 ⊢
  have s5 : Sep (Ls p1 ((n.bs.take 0).map .int) :: Ls p2 ((n.ts.take (0 - n.bs.length)).map Ti.D) :: Ls p4 ((ntB n).map fun l => D.str (tx l)) :: L) S4 := by
    rw [List.take_zero, Nat.zero_sub, List.take_zero]
    show Sep (Ls p1 [] :: Ls p2 [] :: _) S4
    walk_at "se"
  clear s1 s2 s3 s4 hs ec es
  have ln : (ntB n).length = n.bs.length + n.ts.length := by unfold ntB; rw [List.length_append, List.length_map, List.length_map]
  obtain ⟨lb, lt, hb, ht⟩ := o
  refine w_for (fun i env S => ∃ (x3 x5 x6 : Option D), env = [some (.str (tx (ntL n))), some (.ref p1), some (.ref p2), x3, none, x5, x6] ∧ Sep (Ls p1 ((n.bs.take i).map .int) :: Ls p2 ((n.ts.take (i - n.bs.length)).map Ti.D) :: Ls p4 ((ntB n).map fun l => D.str (tx l)) :: L) S) ⟨_, _, _, rfl, s5⟩ (fun _ _ _ ⟨_, _, _, _, z⟩ => by walk_at "st") ?_ ?_
  · rintro i d env S hd ⟨x3, x5, x6, rfl, hs⟩
    rw [List.getElem?_map] at hd
    by_cases hi : i < n.bs.length
    · have e1 : (ntB n)[i]? = (n.bs[i]?).map brB := by unfold ntB; rw [List.getElem?_append_left (by rw [List.length_map]; exact hi), List.getElem?_map]
      rw [e1] at hd
      cases hx : n.bs[i]? with
      | none => rw [hx] at hd; cases hd
      | some b =>
      rw [hx] at hd
      cases hd
      obtain ⟨b0, b1⟩ := hb b (List.mem_of_getElem? hx)
      obtain ⟨m, rfl⟩ : ∃ m : Nat, b = m := ⟨b.toNat, by omega⟩
      have li : (n.bs.take i).length ≤ 10 := Nat.le_trans (List.length_take_le' ..) lb
      have lB := brL_len b1
      rw [brL_B, List.length_append] at lB
      have ei : i + 1 - n.bs.length = i - n.bs.length := by omega
      rw [ei, take_snoc hx, List.map_append]
      have spl := brB_spl m
      refine ⟨_, rfl, ?_⟩
      walk_at "ws"
      rename_i p5 S5 s6
      rw [spl] at s6
      simp only [List.map_cons, List.map_nil] at s6
      walk_at "ws"
      exact inn ⟨_, _, _, rfl, by walk_at "se"⟩
    · have e1 : (ntB n)[i]? = (n.ts[i - n.bs.length]?).map tiB := by unfold ntB; rw [List.getElem?_append_right (by rw [List.length_map]; omega), List.getElem?_map, List.length_map]
      rw [e1] at hd
      cases hx : n.ts[i - n.bs.length]? with
      | none => rw [hx] at hd; cases hd
      | some u =>
      rw [hx] at hd
      cases hd
      obtain ⟨⟨a0, a1⟩, ⟨b0, b1⟩, c0, c1⟩ := ht u (List.mem_of_getElem? hx)
      obtain ⟨a, b, c⟩ := u
      dsimp only at a0 a1 b0 b1 c0 c1
      obtain ⟨a, rfl⟩ : ∃ m : Nat, a = m := ⟨a.toNat, by omega⟩
      obtain ⟨b, rfl⟩ : ∃ m : Nat, b = m := ⟨b.toNat, by omega⟩
      obtain ⟨c, rfl⟩ : ∃ m : Nat, c = m := ⟨c.toNat, by omega⟩
      have li : (n.ts.take (i - n.bs.length)).length ≤ 16 := Nat.le_trans (List.length_take_le' ..) lt
      have lB := tiL_len (x := ⟨a, b, c⟩) a1 b1 c1
      rw [tiL_B, List.length_append] at lB
      have ei : i + 1 - n.bs.length = (i - n.bs.length) + 1 := by omega
      have et : n.bs.take (i + 1) = n.bs.take i := by rw [List.take_of_length_le (by omega), List.take_of_length_le (by omega)]
      rw [ei, take_snoc hx, et, List.map_append]
      have spl := tiB_spl a b c
      refine ⟨_, rfl, ?_⟩
      walk_at "ws"
      rename_i p5 S5 s6
      rw [spl] at s6
      simp only [List.map_cons, List.map_nil] at s6
      walk_at "ws"
      rename_i p6 S6 s7 p7 S7 s8
      have ec : cutL [D.str (tx [116, 105, 101]), D.str (tx (TL.numL a)), D.str (tx (TL.numL b)), D.str (tx (TL.numL c))] (some 1) none = [a, b, c].map fun m => D.str (tx (TL.numL m)) := rfl
      rw [ec] at s8 ⊢
      refine w_compB (fun m => .int (m : Int)) s8 (Nat.le_of_ble_eq_true rfl) (fun _ s => by walk_at "st") (fun k x acc S hx mx s2 => ?_) fun S8 s9 => ?_
      · refine ⟨_, rfl, ?_⟩
        have hx4 : x ≤ 1000 := by
          rcases List.mem_cons.mp mx with e | mx
          · omega
          · rcases List.mem_cons.mp mx with e | mx
            · omega
            · have e := List.mem_singleton.mp mx
              omega
        walk_at "ws"
        exact inn ⟨by trivial, by walk_at "se"⟩
      · simp only [List.map_cons, List.map_nil] at s9
        walk_at "ws"
        exact inn ⟨_, _, _, rfl, by walk_at "se"⟩
  · rintro env S ⟨x3, x5, x6, rfl, hs⟩
    rw [List.length_map, ln, List.take_of_length_le (by omega), show n.bs.length + n.ts.length - n.bs.length = n.ts.length by omega, List.take_length] at hs
    walk_at "ws"
    refine make_net_ok (by omega) hs ob l1 lb (fun t h => (ot t h).1) lt fun S6 s6 => ?_
    have en : mkNet n.bs n.ts = n := by
      unfold mkNet
      rw [← sortI_eq (.refl _) srt]
      have e : n.ts.map Ti.norm = n.ts.map id := List.map_congr_left fun t h => (ot t h).2
      rw [e, List.map_id]
    rw [en]
    have o : NtOk n := ⟨lb, lt, hb, ht⟩
    walk_at "ws"
    refine cdnF' trivial ?_
    walk_at "ws"
    exact h _ (by walk_at "se")
end SW
local macro_rules | `(tactic| walk_at "call") => `(tactic| (refine read_net_ok (by omega) (by assumption) (by assumption) (by assumption) (by assumption) (by assumption) (by assumption) fun S' hs => ?_))
-- BASE
namespace SW
theorem plN_net {n : Nt} (h1 : n.bs.length ≤ 10) (h2 : n.ts.length ≤ 16) : plN 3 n.D = true := by
  simp only [plN, Bool.and_eq_true, decide_eq_true_eq, List.all_eq_true, List.mem_cons, List.not_mem_nil, or_false, List.length_cons, List.length_nil]
  refine ⟨by omega, fun x hx => ?_⟩
  rcases hx with rfl | rfl
  · simp only [plN, Bool.and_eq_true, decide_eq_true_eq, List.all_eq_true, List.length_map]
    refine ⟨by omega, fun y hy => ?_⟩
    obtain ⟨i, _, rfl⟩ := List.mem_map.mp hy
    rfl
  · simp only [plN, Bool.and_eq_true, decide_eq_true_eq, List.all_eq_true, List.length_map]
    refine ⟨by omega, fun y hy => ?_⟩
    obtain ⟨i, _, rfl⟩ := List.mem_map.mp hy
    rfl
structure NtG (n : Nt) : Prop where
  o : NtOk n
  ob : BrOk n.bs
  srt : n.bs.Pairwise (· ≤ ·)
  l1 : 1 ≤ n.bs.length
  ot : ∀ t ∈ n.ts, TiOk n.bs t ∧ t.norm = t
theorem norm_norm {t : Ti} : t.norm.norm = t.norm := by
  unfold Ti.norm
  by_cases c : t.b < t.a
  · rw [if_pos c, if_neg (show ¬ t.b > t.a by omega)]
    show (⟨if t.a < t.b then t.a else t.b, if t.a > t.b then t.a else t.b, t.c⟩ : Ti) = _
    rw [if_neg (show ¬ t.a < t.b by omega), if_pos (show t.a > t.b by omega)]
  · rw [if_neg c]
    by_cases d : t.b > t.a
    · rw [if_pos d]
      show (⟨if t.b < t.a then t.b else t.a, if t.b > t.a then t.b else t.a, t.c⟩ : Ti) = _
      rw [if_neg c, if_pos d]
    · rw [if_neg d]
      show (⟨if t.a < t.a then t.a else t.a, if t.a > t.a then t.a else t.a, t.c⟩ : Ti) = _
      simp only [ite_self]
theorem TiOk.norm {bs cs : List Int} {t : Ti} (h : TiOk bs t) (p : ∀ b ∈ bs, b ∈ cs) : TiOk cs t.norm := by
  obtain ⟨h1, h2, h3, h4, h5⟩ := h
  refine ⟨?_, ?_, ?_, h4, h5⟩
  · show (if t.b < t.a then t.b else t.a) ∈ cs
    split <;> exact p _ (by assumption)
  · show (if t.b > t.a then t.b else t.a) ∈ cs
    split <;> exact p _ (by assumption)
  · show (if t.b < t.a then t.b else t.a) ≠ (if t.b > t.a then t.b else t.a)
    split <;> split <;> omega
theorem NtG.mk' {bs : List Int} {ts : List Ti} (ob : BrOk bs) (h1 : 1 ≤ bs.length) (h2 : bs.length ≤ 10) (ot : ∀ t ∈ ts, TiOk bs t) (hl : ts.length ≤ 16) : NtG (mkNet bs ts) := by
  have p := sortI_perm bs
  have ob2 : BrOk (sortI bs) := ⟨p.symm.nodup ob.1, fun b hb => ob.2 b (p.mem_iff.mp hb)⟩
  have ot2 : ∀ t ∈ ts.map Ti.norm, TiOk (sortI bs) t ∧ t.norm = t := fun t h => by
    obtain ⟨u, hu, rfl⟩ := List.mem_map.mp h
    exact ⟨(ot u hu).norm fun b hb => p.mem_iff.mpr hb, norm_norm⟩
  refine ⟨⟨by show (sortI bs).length ≤ 10; rw [p.length_eq]; exact h2, by show (ts.map Ti.norm).length ≤ 16; rw [List.length_map]; exact hl, fun b hb => ?_, fun t ht => ?_⟩, ob2, sortI_sorted bs, by show 1 ≤ (sortI bs).length; rw [p.length_eq]; exact h1, ot2⟩
  · have := ob2.2 b hb; omega
  · obtain ⟨⟨a1, a2, a3, a4, a5⟩, _⟩ := ot2 t ht
    have := ob2.2 _ a1
    have := ob2.2 _ a2
    omega
theorem law_ok (ns : List Int) (hn : ns.length ≤ 63) : run P0 T depth f_law [.rl (ns.map .int)] (fun _ => none) (fun v _ => v = .bl true) noX := by
  have hs0 : Sep [] (fun _ => none) := trivial
  generalize (fun _ => none : Store) = S0 at hs0
  have hk : 12 ≤ depth := by decide
  generalize depth = k at hk
  have g0 : NtG ⟨[0], []⟩ := ⟨⟨by decide, by decide, by decide, alln⟩, ⟨by decide, by decide⟩, by decide, by decide, alln⟩
  have g9 : NtG ⟨[0, 999], [⟨0, 999, 1000⟩]⟩ := ⟨⟨by decide, by decide, by decide, by decide⟩, ⟨by decide, by decide⟩, by decide, by decide, allc ⟨⟨by decide, by decide, by decide, by decide, by decide⟩, rfl⟩ alln⟩
  refine run_succ (by omega) rfl rfl fun j hj => ?_
  walk_at "ws"
  rename_i p1 S1 s1 p2 S2 s2
  have ec : cutL (ns.map D.int) none (some 63) = (ns.take 63).map .int := by rw [cut_map]; exact congrArg _ (cut_take ns 63)
  rw [ec] at s2
  have lc : (ns.take 63).length ≤ 63 := List.length_take_le _ _
  walk_at "ws"
  rename_i p3 S3 s3
  have s4 : Sep [Ls p3 ((0 :: ns.take 63).map .int)] S3 := by
    have s4 : Sep [Ls p3 ([D.int 0] ++ (ns.take 63).map .int)] S3 := by walk_at "se"
    exact s4
  clear s1 s2 s3
  generalize hcs : (0 :: ns.take 63) = cs at s4
  have lcs : cs.length ≤ 64 := by rw [← hcs, List.length_cons]; omega
  have ecs : D.int 0 :: (ns.take 63).map .int = cs.map .int := by rw [← hcs]; rfl
  rw [ecs]
  refine w_for (fun k env S => ∃ e x2 x3 x4 x5 x6 x7 x8, env = [some (.rl (ns.map .int)), some (Nt.D e), x2, x3, x4, x5, x6, x7, x8] ∧ NtG e ∧ Sep [Ls p3 (cs.map .int)] S) ⟨⟨[0], []⟩, _, _, _, _, _, _, _, rfl, g0, s4⟩ (fun k env S ⟨_, _, _, _, _, _, _, _, _, _, h⟩ => h.get) ?_ ?_
  · rintro k d env S hd ⟨e, x2, x3, x4, x5, x6, x7, x8, rfl, ge, hs⟩
    rw [List.getElem?_map] at hd
    cases hc : cs[k]? with
    | none => rw [hc] at hd; cases hd
    | some c =>
    rw [hc] at hd
    cases hd
    refine ⟨_, rfl, ?_⟩
    walk_at "ws"
    rename_i w S5 s5 pb bs S6 s6 ob b1 b2 pt ts S7 s7 ot tl S8 s8 S9 s9
    have gn := NtG.mk' ob b1 b2 ot tl
    generalize mkNet bs ts = n at gn
    have s10 : Sep [Ls p3 (cs.map .int)] S9 := by walk_at "se"
    clear s5 s6 s7 s8 s9 ob b1 b2 ot tl s4 hs hs0
    obtain ⟨o1, o2, o3, o4, o5⟩ := gn
    have ge' := ge
    obtain ⟨q1, q2, q3, q4, q5⟩ := ge'
    have pn : plN 3 n.D = true := plN_net o1.1 o1.2.1
    have pe : plN 3 e.D = true := plN_net q1.1 q1.2.1
    walk_at "ws"
    refine cdnF' trivial ?_
    walk_at "ws"
    refine same_ok 3 (by omega) pn (by assumption) fun S10 s11 => ?_
    walk_at "ws"
    refine same_ok 3 (by omega) pn (by assumption) fun S10 s11 => ?_
    walk_at "ws"
    refine same_ok 3 (by omega) pe (by assumption) fun S10 s11 => ?_
    walk_at "ws"
    refine cdnF' trivial ?_
    walk_at "ws"
    refine cdnF' trivial ?_
    walk_at "ws"
    exact inn ⟨n, _, _, _, _, _, _, _, rfl, ⟨o1, o2, o3, o4, o5⟩, by walk_at "se"⟩
  · rintro env S ⟨e, x2, x3, x4, x5, x6, x7, x8, rfl, ge, hs⟩
    clear hcs s4 lcs ecs
    walk_at "ws"
    refine show_net_ok (n := ⟨[0, 999], [⟨0, 999, 1000⟩]⟩) (by omega) hs g9.o fun S5 s5 => ?_
    walk_at "ws"
    exact congrArg D.bl (decide_eq_true (by decide))
end SW

end
namespace SW
open PySem PySem.Spec PyProof.Rows L2
/-! ### the link with the text -/
def tp (i : Nat) : Stmt := PySem.Challenge.pw_shutways_k04_nets_written.main.body.getD i (.Pass ⟨0, 0, 0, 0⟩)
abbrev s_is_within : Stmt := tp 8
def d_is_within : He.DefD := ⟨("is_within", none), "is_within", "is_within", defArgs s_is_within, defBody s_is_within, defScope s_is_within, [], []⟩
abbrev s_need_bridges : Stmt := tp 9
def d_need_bridges : He.DefD := ⟨("need_bridges", none), "need_bridges", "need_bridges", defArgs s_need_bridges, defBody s_need_bridges, defScope s_need_bridges, [], []⟩
abbrev s_tie_of : Stmt := tp 10
def d_tie_of : He.DefD := ⟨("tie_of", none), "tie_of", "tie_of", defArgs s_tie_of, defBody s_tie_of, defScope s_tie_of, [], []⟩
abbrev s_make_net : Stmt := tp 11
def d_make_net : He.DefD := ⟨("make_net", none), "make_net", "make_net", defArgs s_make_net, defBody s_make_net, defScope s_make_net, [], []⟩
abbrev s_show_net : Stmt := tp 15
def d_show_net : He.DefD := ⟨("show_net", none), "show_net", "show_net", defArgs s_show_net, defBody s_show_net, defScope s_show_net, [], []⟩
abbrev s_number_in : Stmt := tp 16
def d_number_in : He.DefD := ⟨("number_in", none), "number_in", "number_in", defArgs s_number_in, defBody s_number_in, defScope s_number_in, [], []⟩
abbrev s_read_net : Stmt := tp 17
def d_read_net : He.DefD := ⟨("read_net", none), "read_net", "read_net", defArgs s_read_net, defBody s_read_net, defScope s_read_net, [], []⟩
abbrev s_law_stream : Stmt := tp 19
def d_law_stream : He.DefD := ⟨("_law_stream", none), "_law_stream", "_law_stream", defArgs s_law_stream, defBody s_law_stream, defScope s_law_stream, [], []⟩
abbrev s_law_take : Stmt := tp 20
def d_law_take : He.DefD := ⟨("_law_take", none), "_law_take", "_law_take", defArgs s_law_take, defBody s_law_take, defScope s_law_take, [], []⟩
abbrev s_law_bridges : Stmt := tp 21
def d_law_bridges : He.DefD := ⟨("_law_bridges", none), "_law_bridges", "_law_bridges", defArgs s_law_bridges, defBody s_law_bridges, defScope s_law_bridges, [], []⟩
abbrev s_law_cost : Stmt := tp 22
def d_law_cost : He.DefD := ⟨("_law_cost", none), "_law_cost", "_law_cost", defArgs s_law_cost, defBody s_law_cost, defScope s_law_cost, [], []⟩
abbrev s_law_ties : Stmt := tp 23
def d_law_ties : He.DefD := ⟨("_law_ties", none), "_law_ties", "_law_ties", defArgs s_law_ties, defBody s_law_ties, defScope s_law_ties, [], []⟩
abbrev s_law_due : Stmt := tp 24
def d_law_due : He.DefD := ⟨("_law_due", none), "_law_due", "_law_due", defArgs s_law_due, defBody s_law_due, defScope s_law_due, [], []⟩
abbrev s_law_same : Stmt := tp 25
def d_law_same : He.DefD := ⟨("_law_same", none), "_law_same", "_law_same", defArgs s_law_same, defBody s_law_same, defScope s_law_same, [], []⟩
abbrev s_law_written : Stmt := tp 26
def d_law_written : He.DefD := ⟨("_law_written", none), "_law_written", "_law_written", defArgs s_law_written, defBody s_law_written, defScope s_law_written, [], []⟩
abbrev s_law : Stmt := tp 27
def d_law : He.DefD := ⟨("law", none), "law", "law", defArgs s_law, defBody s_law, defScope s_law, [], []⟩
def fns : List He.DefD := [d_is_within, d_need_bridges, d_tie_of, d_make_net, d_show_net, d_number_in, d_read_net, d_law_stream, d_law_take, d_law_bridges, d_law_cost, d_law_ties, d_law_due, d_law_same, d_law_written, d_law]
def facts : List He.Fa := [.glo "is_within", .glo "need_bridges", .glo "tie_of", .glo "make_net", .glo "show_net", .glo "number_in", .glo "read_net", .glo "_law_stream", .glo "_law_take", .glo "_law_bridges", .glo "_law_cost", .glo "_law_ties", .glo "_law_due", .glo "_law_same", .glo "_law_written", .glo "law", .free "ValueError", .free "bool", .free "enumerate", .free "int", .free "isinstance", .free "len", .free "list", .free "max", .free "min", .free "range", .free "sorted", .free "str", .free "tuple", .int "MOST_BRIDGES" 10, .int "MOST_TIES" 16, .int "MOST_NUMBER" 999, .int "MOST_COST" 1000, .str "FIGURES" "0123456789", .int "MOST_FIGURES" 4, .glo "ShutError", .exc "ShutError", .glo "NoNet", .exc "NoNet"]
def gls : List (Str × Gk) := [("is_within", .fn f_is_within), ("need_bridges", .fn f_need_bridges), ("tie_of", .fn f_tie_of), ("make_net", .fn f_make_net), ("show_net", .fn f_show_net), ("number_in", .fn f_number_in), ("read_net", .fn f_read_net), ("_law_stream", .fn f_law_stream), ("_law_take", .fn f_law_take), ("_law_bridges", .fn f_law_bridges), ("_law_cost", .fn f_law_cost), ("_law_ties", .fn f_law_ties), ("_law_due", .fn f_law_due), ("_law_same", .fn f_law_same), ("_law_written", .fn f_law_written), ("law", .fn f_law), ("ShutError", .exc x_ShutError), ("NoNet", .exc x_NoNet), ("MOST_BRIDGES", .cst k_MOST_BRIDGES), ("MOST_TIES", .cst k_MOST_TIES), ("MOST_NUMBER", .cst k_MOST_NUMBER), ("MOST_COST", .cst k_MOST_COST), ("FIGURES", .cst k_FIGURES), ("MOST_FIGURES", .cst k_MOST_FIGURES)]
def bns : List Str := ["ValueError", "bool", "enumerate", "int", "isinstance", "len", "list", "max", "min", "range", "sorted", "str", "tuple"]
def fldT : List (Str × Nat) := []
def mthT : List (Str × Nat) := []
def G0 : EC := ⟨[], [], [], gls, bns, fldT, mthT, []⟩
def n_is_within : List Str := ["thing", "least", "most"]
def p_is_within : List Str := ["thing", "least", "most"]
theorem sc_is_within : FnScope n_is_within p_is_within (defScope s_is_within) := ⟨rfl, rfl, rfl, by decide +kernel, rfl, by decide +kernel, by decide +kernel⟩
theorem el_is_within : elSs (elS 40 ({ G0 with dn := [] }.fn n_is_within (defScope s_is_within))) (defBody s_is_within) = some b_is_within := by kernel_rfl
def n_need_bridges : List Str := ["bridges", "spot", "number"]
def p_need_bridges : List Str := ["bridges"]
theorem sc_need_bridges : FnScope n_need_bridges p_need_bridges (defScope s_need_bridges) := ⟨rfl, rfl, rfl, by decide +kernel, rfl, by decide +kernel, by decide +kernel⟩
theorem el_need_bridges : elSs (elS 40 ({ G0 with dn := [] }.fn n_need_bridges (defScope s_need_bridges))) (defBody s_need_bridges) = some b_need_bridges := by kernel_rfl
def n_tie_of : List Str := ["bridges", "thing", "number"]
def p_tie_of : List Str := ["bridges", "thing"]
theorem sc_tie_of : FnScope n_tie_of p_tie_of (defScope s_tie_of) := ⟨rfl, rfl, rfl, by decide +kernel, rfl, by decide +kernel, by decide +kernel⟩
theorem el_tie_of : elSs (elS 40 ({ G0 with dn := [] }.fn n_tie_of (defScope s_tie_of))) (defBody s_tie_of) = some b_tie_of := by kernel_rfl
def n_make_net : List Str := ["bridges", "ties", "thing"]
def p_make_net : List Str := ["bridges", "ties"]
theorem sc_make_net : FnScope n_make_net p_make_net (defScope s_make_net) := ⟨rfl, rfl, rfl, by decide +kernel, rfl, by decide +kernel, by decide +kernel⟩
theorem el_make_net : elSs (elS 40 ({ G0 with dn := [] }.fn n_make_net (defScope s_make_net))) (defBody s_make_net) = some b_make_net := by kernel_rfl
def n_show_net : List Str := ["net", "lines", "one", "other", "cost", "number"]
def p_show_net : List Str := ["net"]
theorem sc_show_net : FnScope n_show_net p_show_net (defScope s_show_net) := ⟨rfl, rfl, rfl, by decide +kernel, rfl, by decide +kernel, by decide +kernel⟩
theorem el_show_net : elSs (elS 40 ({ G0 with dn := [] }.fn n_show_net (defScope s_show_net))) (defBody s_show_net) = some b_show_net := by kernel_rfl
def n_number_in : List Str := ["word", "sign"]
def p_number_in : List Str := ["word"]
theorem sc_number_in : FnScope n_number_in p_number_in (defScope s_number_in) := ⟨rfl, rfl, rfl, by decide +kernel, rfl, by decide +kernel, by decide +kernel⟩
theorem el_number_in : elSs (elS 40 ({ G0 with dn := [] }.fn n_number_in (defScope s_number_in))) (defBody s_number_in) = some b_number_in := by kernel_rfl
def n_read_net : List Str := ["text", "bridges", "ties", "line", "net", "words", "word"]
def p_read_net : List Str := ["text"]
theorem sc_read_net : FnScope n_read_net p_read_net (defScope s_read_net) := ⟨rfl, rfl, rfl, by decide +kernel, rfl, by decide +kernel, by decide +kernel⟩
theorem el_read_net : elSs (elS 40 ({ G0 with dn := [] }.fn n_read_net (defScope s_read_net))) (defBody s_read_net) = some b_read_net := by kernel_rfl
def n_law_stream : List Str := ["cell", "low"]
def p_law_stream : List Str := ["cell"]
theorem sc_law_stream : FnScope n_law_stream p_law_stream (defScope s_law_stream) := ⟨rfl, rfl, rfl, by decide +kernel, rfl, by decide +kernel, by decide +kernel⟩
theorem el_law_stream : elSs (elS 40 ({ G0 with dn := [] }.fn n_law_stream (defScope s_law_stream))) (defBody s_law_stream) = some b_law_stream := by kernel_rfl
def n_law_take : List Str := ["row", "many", "got"]
def p_law_take : List Str := ["row", "many"]
theorem sc_law_take : FnScope n_law_take p_law_take (defScope s_law_take) := ⟨rfl, rfl, rfl, by decide +kernel, rfl, by decide +kernel, by decide +kernel⟩
theorem el_law_take : elSs (elS 40 ({ G0 with dn := [] }.fn n_law_take (defScope s_law_take))) (defBody s_law_take) = some b_law_take := by kernel_rfl
def n_law_bridges : List Str := ["row", "bridges", "many", "k", "number"]
def p_law_bridges : List Str := ["row"]
theorem sc_law_bridges : FnScope n_law_bridges p_law_bridges (defScope s_law_bridges) := ⟨rfl, rfl, rfl, by decide +kernel, rfl, by decide +kernel, by decide +kernel⟩
theorem el_law_bridges : elSs (elS 40 ({ G0 with dn := [] }.fn n_law_bridges (defScope s_law_bridges))) (defBody s_law_bridges) = some b_law_bridges := by kernel_rfl
def n_law_cost : List Str := ["row"]
def p_law_cost : List Str := ["row"]
theorem sc_law_cost : FnScope n_law_cost p_law_cost (defScope s_law_cost) := ⟨rfl, rfl, rfl, by decide +kernel, rfl, by decide +kernel, by decide +kernel⟩
theorem el_law_cost : elSs (elS 40 ({ G0 with dn := [] }.fn n_law_cost (defScope s_law_cost))) (defBody s_law_cost) = some b_law_cost := by kernel_rfl
def n_law_ties : List Str := ["row", "bridges", "ties", "k", "at", "to", "tie"]
def p_law_ties : List Str := ["row", "bridges"]
theorem sc_law_ties : FnScope n_law_ties p_law_ties (defScope s_law_ties) := ⟨rfl, rfl, rfl, by decide +kernel, rfl, by decide +kernel, by decide +kernel⟩
theorem el_law_ties : elSs (elS 40 ({ G0 with dn := [] }.fn n_law_ties (defScope s_law_ties))) (defBody s_law_ties) = some b_law_ties := by kernel_rfl
def n_law_due : List Str := ["bridges", "ties", "tie"]
def p_law_due : List Str := ["bridges", "ties"]
theorem sc_law_due : FnScope n_law_due p_law_due (defScope s_law_due) := ⟨rfl, rfl, rfl, by decide +kernel, rfl, by decide +kernel, by decide +kernel⟩
theorem el_law_due : elSs (elS 40 ({ G0 with dn := [] }.fn n_law_due (defScope s_law_due))) (defBody s_law_due) = some b_law_due := by kernel_rfl
def n_law_same : List Str := ["found", "due", "k"]
def p_law_same : List Str := ["found", "due"]
theorem sc_law_same : FnScope n_law_same p_law_same (defScope s_law_same) := ⟨rfl, rfl, rfl, by decide +kernel, rfl, by decide +kernel, by decide +kernel⟩
theorem el_law_same : elSs (elS 40 ({ G0 with dn := [] }.fn n_law_same (defScope s_law_same))) (defBody s_law_same) = some b_law_same := by kernel_rfl
def n_law_written : List Str := ["net", "text", "number", "one", "other", "cost"]
def p_law_written : List Str := ["net"]
theorem sc_law_written : FnScope n_law_written p_law_written (defScope s_law_written) := ⟨rfl, rfl, rfl, by decide +kernel, rfl, by decide +kernel, by decide +kernel⟩
theorem el_law_written : elSs (elS 40 ({ G0 with dn := [] }.fn n_law_written (defScope s_law_written))) (defBody s_law_written) = some b_law_written := by kernel_rfl
def n_law : List Str := ["script", "elder", "cell", "row", "bridges", "ties", "net", "due", "text"]
def p_law : List Str := ["script"]
theorem sc_law : FnScope n_law p_law (defScope s_law) := ⟨rfl, rfl, rfl, by decide +kernel, rfl, by decide +kernel, by decide +kernel⟩
theorem el_law : elSs (elS 40 ({ G0 with dn := [] }.fn n_law (defScope s_law))) (defBody s_law) = some b_law := by kernel_rfl
def adr (K : PySem.W.Frag) (f : Nat) : Addr := He.fAd K ((fns.getD f d_is_within).at_)
def nmT : List Str := []
def caT : List Str := ["ShutError", "NoNet"]
def mkC (K : PySem.W.Frag) : Cn := ⟨K, fun n => nmT.getD n "", fun c => He.ga K (caT.getD c ""), fun c => c < 0, fun f => f < 0⟩
theorem fl_is_within {K : PySem.W.Frag} (c : He.SaysD facts fns K) : ∃ fd ps, FnL (mkC K) G0 (adr K f_is_within) ⟨3, 3, b_is_within⟩ fd ps ∧ ps = p_is_within := by
  obtain ⟨fd, F⟩ := c.def_ 0 (d := d_is_within) rfl
  exact ⟨fd, p_is_within, ⟨⟨_, _, _, _, _, n_is_within, 40, _, F, sc_is_within, rfl, el_is_within⟩, rfl, FunD.bindsA (ps := p_is_within) F fun _ _ _ _ _ _ us hl => match us, hl with | [_, _, _], _ => rfl⟩, rfl⟩
theorem fl_need_bridges {K : PySem.W.Frag} (c : He.SaysD facts fns K) : ∃ fd ps, FnL (mkC K) G0 (adr K f_need_bridges) ⟨1, 3, b_need_bridges⟩ fd ps ∧ ps = p_need_bridges := by
  obtain ⟨fd, F⟩ := c.def_ 1 (d := d_need_bridges) rfl
  exact ⟨fd, p_need_bridges, ⟨⟨_, _, _, _, _, n_need_bridges, 40, _, F, sc_need_bridges, rfl, el_need_bridges⟩, rfl, FunD.bindsA (ps := p_need_bridges) F fun _ _ _ _ _ _ us hl => match us, hl with | [_], _ => rfl⟩, rfl⟩
theorem fl_tie_of {K : PySem.W.Frag} (c : He.SaysD facts fns K) : ∃ fd ps, FnL (mkC K) G0 (adr K f_tie_of) ⟨2, 3, b_tie_of⟩ fd ps ∧ ps = p_tie_of := by
  obtain ⟨fd, F⟩ := c.def_ 2 (d := d_tie_of) rfl
  exact ⟨fd, p_tie_of, ⟨⟨_, _, _, _, _, n_tie_of, 40, _, F, sc_tie_of, rfl, el_tie_of⟩, rfl, FunD.bindsA (ps := p_tie_of) F fun _ _ _ _ _ _ us hl => match us, hl with | [_, _], _ => rfl⟩, rfl⟩
theorem fl_make_net {K : PySem.W.Frag} (c : He.SaysD facts fns K) : ∃ fd ps, FnL (mkC K) G0 (adr K f_make_net) ⟨2, 3, b_make_net⟩ fd ps ∧ ps = p_make_net := by
  obtain ⟨fd, F⟩ := c.def_ 3 (d := d_make_net) rfl
  exact ⟨fd, p_make_net, ⟨⟨_, _, _, _, _, n_make_net, 40, _, F, sc_make_net, rfl, el_make_net⟩, rfl, FunD.bindsA (ps := p_make_net) F fun _ _ _ _ _ _ us hl => match us, hl with | [_, _], _ => rfl⟩, rfl⟩
theorem fl_show_net {K : PySem.W.Frag} (c : He.SaysD facts fns K) : ∃ fd ps, FnL (mkC K) G0 (adr K f_show_net) ⟨1, 6, b_show_net⟩ fd ps ∧ ps = p_show_net := by
  obtain ⟨fd, F⟩ := c.def_ 4 (d := d_show_net) rfl
  exact ⟨fd, p_show_net, ⟨⟨_, _, _, _, _, n_show_net, 40, _, F, sc_show_net, rfl, el_show_net⟩, rfl, FunD.bindsA (ps := p_show_net) F fun _ _ _ _ _ _ us hl => match us, hl with | [_], _ => rfl⟩, rfl⟩
theorem fl_number_in {K : PySem.W.Frag} (c : He.SaysD facts fns K) : ∃ fd ps, FnL (mkC K) G0 (adr K f_number_in) ⟨1, 2, b_number_in⟩ fd ps ∧ ps = p_number_in := by
  obtain ⟨fd, F⟩ := c.def_ 5 (d := d_number_in) rfl
  exact ⟨fd, p_number_in, ⟨⟨_, _, _, _, _, n_number_in, 40, _, F, sc_number_in, rfl, el_number_in⟩, rfl, FunD.bindsA (ps := p_number_in) F fun _ _ _ _ _ _ us hl => match us, hl with | [_], _ => rfl⟩, rfl⟩
theorem fl_read_net {K : PySem.W.Frag} (c : He.SaysD facts fns K) : ∃ fd ps, FnL (mkC K) G0 (adr K f_read_net) ⟨1, 7, b_read_net⟩ fd ps ∧ ps = p_read_net := by
  obtain ⟨fd, F⟩ := c.def_ 6 (d := d_read_net) rfl
  exact ⟨fd, p_read_net, ⟨⟨_, _, _, _, _, n_read_net, 40, _, F, sc_read_net, rfl, el_read_net⟩, rfl, FunD.bindsA (ps := p_read_net) F fun _ _ _ _ _ _ us hl => match us, hl with | [_], _ => rfl⟩, rfl⟩
theorem fl_law_stream {K : PySem.W.Frag} (c : He.SaysD facts fns K) : ∃ fd ps, FnL (mkC K) G0 (adr K f_law_stream) ⟨1, 2, b_law_stream⟩ fd ps ∧ ps = p_law_stream := by
  obtain ⟨fd, F⟩ := c.def_ 7 (d := d_law_stream) rfl
  exact ⟨fd, p_law_stream, ⟨⟨_, _, _, _, _, n_law_stream, 40, _, F, sc_law_stream, rfl, el_law_stream⟩, rfl, FunD.bindsA (ps := p_law_stream) F fun _ _ _ _ _ _ us hl => match us, hl with | [_], _ => rfl⟩, rfl⟩
theorem fl_law_take {K : PySem.W.Frag} (c : He.SaysD facts fns K) : ∃ fd ps, FnL (mkC K) G0 (adr K f_law_take) ⟨2, 3, b_law_take⟩ fd ps ∧ ps = p_law_take := by
  obtain ⟨fd, F⟩ := c.def_ 8 (d := d_law_take) rfl
  exact ⟨fd, p_law_take, ⟨⟨_, _, _, _, _, n_law_take, 40, _, F, sc_law_take, rfl, el_law_take⟩, rfl, FunD.bindsA (ps := p_law_take) F fun _ _ _ _ _ _ us hl => match us, hl with | [_, _], _ => rfl⟩, rfl⟩
theorem fl_law_bridges {K : PySem.W.Frag} (c : He.SaysD facts fns K) : ∃ fd ps, FnL (mkC K) G0 (adr K f_law_bridges) ⟨1, 5, b_law_bridges⟩ fd ps ∧ ps = p_law_bridges := by
  obtain ⟨fd, F⟩ := c.def_ 9 (d := d_law_bridges) rfl
  exact ⟨fd, p_law_bridges, ⟨⟨_, _, _, _, _, n_law_bridges, 40, _, F, sc_law_bridges, rfl, el_law_bridges⟩, rfl, FunD.bindsA (ps := p_law_bridges) F fun _ _ _ _ _ _ us hl => match us, hl with | [_], _ => rfl⟩, rfl⟩
theorem fl_law_cost {K : PySem.W.Frag} (c : He.SaysD facts fns K) : ∃ fd ps, FnL (mkC K) G0 (adr K f_law_cost) ⟨1, 1, b_law_cost⟩ fd ps ∧ ps = p_law_cost := by
  obtain ⟨fd, F⟩ := c.def_ 10 (d := d_law_cost) rfl
  exact ⟨fd, p_law_cost, ⟨⟨_, _, _, _, _, n_law_cost, 40, _, F, sc_law_cost, rfl, el_law_cost⟩, rfl, FunD.bindsA (ps := p_law_cost) F fun _ _ _ _ _ _ us hl => match us, hl with | [_], _ => rfl⟩, rfl⟩
theorem fl_law_ties {K : PySem.W.Frag} (c : He.SaysD facts fns K) : ∃ fd ps, FnL (mkC K) G0 (adr K f_law_ties) ⟨2, 7, b_law_ties⟩ fd ps ∧ ps = p_law_ties := by
  obtain ⟨fd, F⟩ := c.def_ 11 (d := d_law_ties) rfl
  exact ⟨fd, p_law_ties, ⟨⟨_, _, _, _, _, n_law_ties, 40, _, F, sc_law_ties, rfl, el_law_ties⟩, rfl, FunD.bindsA (ps := p_law_ties) F fun _ _ _ _ _ _ us hl => match us, hl with | [_, _], _ => rfl⟩, rfl⟩
theorem fl_law_due {K : PySem.W.Frag} (c : He.SaysD facts fns K) : ∃ fd ps, FnL (mkC K) G0 (adr K f_law_due) ⟨2, 3, b_law_due⟩ fd ps ∧ ps = p_law_due := by
  obtain ⟨fd, F⟩ := c.def_ 12 (d := d_law_due) rfl
  exact ⟨fd, p_law_due, ⟨⟨_, _, _, _, _, n_law_due, 40, _, F, sc_law_due, rfl, el_law_due⟩, rfl, FunD.bindsA (ps := p_law_due) F fun _ _ _ _ _ _ us hl => match us, hl with | [_, _], _ => rfl⟩, rfl⟩
theorem fl_law_same {K : PySem.W.Frag} (c : He.SaysD facts fns K) : ∃ fd ps, FnL (mkC K) G0 (adr K f_law_same) ⟨2, 3, b_law_same⟩ fd ps ∧ ps = p_law_same := by
  obtain ⟨fd, F⟩ := c.def_ 13 (d := d_law_same) rfl
  exact ⟨fd, p_law_same, ⟨⟨_, _, _, _, _, n_law_same, 40, _, F, sc_law_same, rfl, el_law_same⟩, rfl, FunD.bindsA (ps := p_law_same) F fun _ _ _ _ _ _ us hl => match us, hl with | [_, _], _ => rfl⟩, rfl⟩
theorem fl_law_written {K : PySem.W.Frag} (c : He.SaysD facts fns K) : ∃ fd ps, FnL (mkC K) G0 (adr K f_law_written) ⟨1, 6, b_law_written⟩ fd ps ∧ ps = p_law_written := by
  obtain ⟨fd, F⟩ := c.def_ 14 (d := d_law_written) rfl
  exact ⟨fd, p_law_written, ⟨⟨_, _, _, _, _, n_law_written, 40, _, F, sc_law_written, rfl, el_law_written⟩, rfl, FunD.bindsA (ps := p_law_written) F fun _ _ _ _ _ _ us hl => match us, hl with | [_], _ => rfl⟩, rfl⟩
theorem fl_law {K : PySem.W.Frag} (c : He.SaysD facts fns K) : ∃ fd ps, FnL (mkC K) G0 (adr K f_law) ⟨1, 9, b_law⟩ fd ps ∧ ps = p_law := by
  obtain ⟨fd, F⟩ := c.def_ 15 (d := d_law) rfl
  exact ⟨fd, p_law, ⟨⟨_, _, _, _, _, n_law, 40, _, F, sc_law, rfl, el_law⟩, rfl, FunD.bindsA (ps := p_law) F fun _ _ _ _ _ _ us hl => match us, hl with | [_], _ => rfl⟩, rfl⟩
def exB (K : PySem.W.Frag) : Bool := exS (mkC K) subT isxT
theorem kx_FIGURES : D.str ("0123456789" : Str) = k_FIGURES := by kernel_rfl
theorem ex_0 {K : PySem.W.Frag} (h : exB K = true) : exS (mkC K) subT isxT = true := by
  unfold exB at h
  exact h
theorem kp_is_within {K : PySem.W.Frag} (c : He.SaysD facts fns K) : PySem.W.keepIn K (.ref (adr K f_is_within)) = true := by
  obtain ⟨fd, F⟩ := c.def_ 0 (d := d_is_within) rfl
  exact F.kp
theorem kp_need_bridges {K : PySem.W.Frag} (c : He.SaysD facts fns K) : PySem.W.keepIn K (.ref (adr K f_need_bridges)) = true := by
  obtain ⟨fd, F⟩ := c.def_ 1 (d := d_need_bridges) rfl
  exact F.kp
theorem kp_tie_of {K : PySem.W.Frag} (c : He.SaysD facts fns K) : PySem.W.keepIn K (.ref (adr K f_tie_of)) = true := by
  obtain ⟨fd, F⟩ := c.def_ 2 (d := d_tie_of) rfl
  exact F.kp
theorem kp_make_net {K : PySem.W.Frag} (c : He.SaysD facts fns K) : PySem.W.keepIn K (.ref (adr K f_make_net)) = true := by
  obtain ⟨fd, F⟩ := c.def_ 3 (d := d_make_net) rfl
  exact F.kp
theorem kp_show_net {K : PySem.W.Frag} (c : He.SaysD facts fns K) : PySem.W.keepIn K (.ref (adr K f_show_net)) = true := by
  obtain ⟨fd, F⟩ := c.def_ 4 (d := d_show_net) rfl
  exact F.kp
theorem kp_number_in {K : PySem.W.Frag} (c : He.SaysD facts fns K) : PySem.W.keepIn K (.ref (adr K f_number_in)) = true := by
  obtain ⟨fd, F⟩ := c.def_ 5 (d := d_number_in) rfl
  exact F.kp
theorem kp_read_net {K : PySem.W.Frag} (c : He.SaysD facts fns K) : PySem.W.keepIn K (.ref (adr K f_read_net)) = true := by
  obtain ⟨fd, F⟩ := c.def_ 6 (d := d_read_net) rfl
  exact F.kp
theorem kp_law_stream {K : PySem.W.Frag} (c : He.SaysD facts fns K) : PySem.W.keepIn K (.ref (adr K f_law_stream)) = true := by
  obtain ⟨fd, F⟩ := c.def_ 7 (d := d_law_stream) rfl
  exact F.kp
theorem kp_law_take {K : PySem.W.Frag} (c : He.SaysD facts fns K) : PySem.W.keepIn K (.ref (adr K f_law_take)) = true := by
  obtain ⟨fd, F⟩ := c.def_ 8 (d := d_law_take) rfl
  exact F.kp
theorem kp_law_bridges {K : PySem.W.Frag} (c : He.SaysD facts fns K) : PySem.W.keepIn K (.ref (adr K f_law_bridges)) = true := by
  obtain ⟨fd, F⟩ := c.def_ 9 (d := d_law_bridges) rfl
  exact F.kp
theorem kp_law_cost {K : PySem.W.Frag} (c : He.SaysD facts fns K) : PySem.W.keepIn K (.ref (adr K f_law_cost)) = true := by
  obtain ⟨fd, F⟩ := c.def_ 10 (d := d_law_cost) rfl
  exact F.kp
theorem kp_law_ties {K : PySem.W.Frag} (c : He.SaysD facts fns K) : PySem.W.keepIn K (.ref (adr K f_law_ties)) = true := by
  obtain ⟨fd, F⟩ := c.def_ 11 (d := d_law_ties) rfl
  exact F.kp
theorem kp_law_due {K : PySem.W.Frag} (c : He.SaysD facts fns K) : PySem.W.keepIn K (.ref (adr K f_law_due)) = true := by
  obtain ⟨fd, F⟩ := c.def_ 12 (d := d_law_due) rfl
  exact F.kp
theorem kp_law_same {K : PySem.W.Frag} (c : He.SaysD facts fns K) : PySem.W.keepIn K (.ref (adr K f_law_same)) = true := by
  obtain ⟨fd, F⟩ := c.def_ 13 (d := d_law_same) rfl
  exact F.kp
theorem kp_law_written {K : PySem.W.Frag} (c : He.SaysD facts fns K) : PySem.W.keepIn K (.ref (adr K f_law_written)) = true := by
  obtain ⟨fd, F⟩ := c.def_ 14 (d := d_law_written) rfl
  exact F.kp
theorem kp_law {K : PySem.W.Frag} (c : He.SaysD facts fns K) : PySem.W.keepIn K (.ref (adr K f_law)) = true := by
  obtain ⟨fd, F⟩ := c.def_ 15 (d := d_law) rfl
  exact F.kp
theorem link_ok {K : PySem.W.Frag} {h : Heap} {mg : Str → Option Value} (X : K.In h) (G : h.Ns mainGlobals mg) (c : He.SaysD facts fns K) (hx : exB K = true) : Lk (mkC K) P0 T G0 (adr K) mg := by
  have q1 : ∀ q ∈ gls, GlL (mkC K) P0 T (adr K) mg q.1 q.2 := allc (⟨He.glo_ok X G (c.fact 0), kp_is_within c, rfl⟩) (allc (⟨He.glo_ok X G (c.fact 1), kp_need_bridges c, rfl⟩) (allc (⟨He.glo_ok X G (c.fact 2), kp_tie_of c, rfl⟩) (allc (⟨He.glo_ok X G (c.fact 3), kp_make_net c, rfl⟩) (allc (⟨He.glo_ok X G (c.fact 4), kp_show_net c, rfl⟩) (allc (⟨He.glo_ok X G (c.fact 5), kp_number_in c, rfl⟩) (allc (⟨He.glo_ok X G (c.fact 6), kp_read_net c, rfl⟩) (allc (⟨He.glo_ok X G (c.fact 7), kp_law_stream c, rfl⟩) (allc (⟨He.glo_ok X G (c.fact 8), kp_law_take c, rfl⟩) (allc (⟨He.glo_ok X G (c.fact 9), kp_law_bridges c, rfl⟩) (allc (⟨He.glo_ok X G (c.fact 10), kp_law_cost c, rfl⟩) (allc (⟨He.glo_ok X G (c.fact 11), kp_law_ties c, rfl⟩) (allc (⟨He.glo_ok X G (c.fact 12), kp_law_due c, rfl⟩) (allc (⟨He.glo_ok X G (c.fact 13), kp_law_same c, rfl⟩) (allc (⟨He.glo_ok X G (c.fact 14), kp_law_written c, rfl⟩) (allc (⟨He.glo_ok X G (c.fact 15), kp_law c, rfl⟩) (allc ((have e := He.exc_ok (c.fact 36); ⟨He.glo_ok X G (c.fact 35), e.1, e.2.1, e.2.2.1, e.2.2.2⟩)) (allc ((have e := He.exc_ok (c.fact 38); ⟨He.glo_ok X G (c.fact 37), e.1, e.2.1, e.2.2.1, e.2.2.2⟩)) (allc ((have ⟨t, e⟩ := He.int_ok X G (c.fact 29); ⟨.int 10, _, e, ⟨t, rfl⟩, fun _ => .int _⟩)) (allc ((have ⟨t, e⟩ := He.int_ok X G (c.fact 30); ⟨.int 16, _, e, ⟨t, rfl⟩, fun _ => .int _⟩)) (allc ((have ⟨t, e⟩ := He.int_ok X G (c.fact 31); ⟨.int 999, _, e, ⟨t, rfl⟩, fun _ => .int _⟩)) (allc ((have ⟨t, e⟩ := He.int_ok X G (c.fact 32); ⟨.int 1000, _, e, ⟨t, rfl⟩, fun _ => .int _⟩)) (allc ((have ⟨t, e⟩ := He.str_ok X G (c.fact 33); ⟨.str "0123456789", _, e, ⟨t, rfl⟩, fun _ => kx_FIGURES ▸ .str _⟩)) (allc ((have ⟨t, e⟩ := He.int_ok X G (c.fact 34); ⟨.int 4, _, e, ⟨t, rfl⟩, fun _ => .int _⟩)) (alln))))))))))))))))))))))))
  have q2 : ∀ x ∈ bns, mg x = none := allc (He.free_ok X G (c.fact 16)) (allc (He.free_ok X G (c.fact 17)) (allc (He.free_ok X G (c.fact 18)) (allc (He.free_ok X G (c.fact 19)) (allc (He.free_ok X G (c.fact 20)) (allc (He.free_ok X G (c.fact 21)) (allc (He.free_ok X G (c.fact 22)) (allc (He.free_ok X G (c.fact 23)) (allc (He.free_ok X G (c.fact 24)) (allc (He.free_ok X G (c.fact 25)) (allc (He.free_ok X G (c.fact 26)) (allc (He.free_ok X G (c.fact 27)) (allc (He.free_ok X G (c.fact 28)) (alln)))))))))))))
  have q3 : ∀ q ∈ fldT, (mkC K).nm q.2 = q.1 ∧ (mkC K).isF q.2 := alln
  have q4 : ∀ q ∈ mthT, (mkC K).nm q.2 = q.1 := alln
  refine { F := ⟨?inj, ?cls, ?noat⟩, fns := ?fns, gl := fun x g e => q1 (x, g) (lookup_mem e), bn := fun x e => q2 x (List.contains_iff_mem.mp e), fld := fun s f e => q3 (s, f) (lookup_mem e), mnm := fun s f e => q4 (s, f) (lookup_mem e), mth := ?mth, ini := ?ini, icl := ?icl, sub := exS_sub (ex_0 hx), isx := exS_isx (ex_0 hx) }
  case inj => exact fun f g hf => absurd hf (Nat.not_lt_zero _)
  case cls => exact fun k hk => absurd hk (Nat.not_lt_zero _)
  case noat => exact fun k f hk => absurd hk (Nat.not_lt_zero _)
  case fns =>
    intro f d e
    match f, e with
    | 0, e => cases e; obtain ⟨fd, ps, h, _⟩ := fl_is_within c; exact ⟨fd, ps, h⟩
    | 1, e => cases e; obtain ⟨fd, ps, h, _⟩ := fl_need_bridges c; exact ⟨fd, ps, h⟩
    | 2, e => cases e; obtain ⟨fd, ps, h, _⟩ := fl_tie_of c; exact ⟨fd, ps, h⟩
    | 3, e => cases e; obtain ⟨fd, ps, h, _⟩ := fl_make_net c; exact ⟨fd, ps, h⟩
    | 4, e => cases e; obtain ⟨fd, ps, h, _⟩ := fl_show_net c; exact ⟨fd, ps, h⟩
    | 5, e => cases e; obtain ⟨fd, ps, h, _⟩ := fl_number_in c; exact ⟨fd, ps, h⟩
    | 6, e => cases e; obtain ⟨fd, ps, h, _⟩ := fl_read_net c; exact ⟨fd, ps, h⟩
    | 7, e => cases e; obtain ⟨fd, ps, h, _⟩ := fl_law_stream c; exact ⟨fd, ps, h⟩
    | 8, e => cases e; obtain ⟨fd, ps, h, _⟩ := fl_law_take c; exact ⟨fd, ps, h⟩
    | 9, e => cases e; obtain ⟨fd, ps, h, _⟩ := fl_law_bridges c; exact ⟨fd, ps, h⟩
    | 10, e => cases e; obtain ⟨fd, ps, h, _⟩ := fl_law_cost c; exact ⟨fd, ps, h⟩
    | 11, e => cases e; obtain ⟨fd, ps, h, _⟩ := fl_law_ties c; exact ⟨fd, ps, h⟩
    | 12, e => cases e; obtain ⟨fd, ps, h, _⟩ := fl_law_due c; exact ⟨fd, ps, h⟩
    | 13, e => cases e; obtain ⟨fd, ps, h, _⟩ := fl_law_same c; exact ⟨fd, ps, h⟩
    | 14, e => cases e; obtain ⟨fd, ps, h, _⟩ := fl_law_written c; exact ⟨fd, ps, h⟩
    | 15, e => cases e; obtain ⟨fd, ps, h, _⟩ := fl_law c; exact ⟨fd, ps, h⟩
    | n + 16, e => cases e
  case mth =>
    intro k m f e
    change pM k m = some f at e
    unfold pM at e
    split at e
    · cases e
  case ini =>
    intro k f e
    change pI k = some f at e
    unfold pI at e
    split at e
    · cases e
  case icl =>
    intro k f e
    change pI k = some f at e
    unfold pI at e
    split at e
    · cases e
abbrev RR : PySem.W.OpenRow := PySem.W.OpenLaw.row PySem.Challenge.rw_shutways_k04_nets_written
abbrev hk : PySem.W.Hook := hookS 5 facts fns exB
def ob (s : PySem.W.SharedT) : He.AlD × Bool := obS 5 facts fns exB (HandSHeadRun.getT s)
theorem ob_eq (s : PySem.W.SharedT) : ob s = hk.obs s.abs := obS_eq (HandSHeadRun.getT_eq s)
def loose : List Str := ["ShutError", "NoNet", "MOST_BRIDGES", "MOST_TIES", "MOST_NUMBER", "MOST_COST", "is_within", "need_bridges", "tie_of", "make_net", "FIGURES", "MOST_FIGURES", "show_net", "number_in", "read_net", "_law_stream", "_law_take", "_law_bridges", "_law_cost", "_law_ties", "_law_due", "_law_same", "_law_written"]
theorem topRunEq (w : World) : HandSHeadRun.RunEq RR (PySem.W.view RR.prog [27]) hk ob 100000 loose w := by
  intro os
  kernel_rfl
end SW
open PySem PySem.W PySem.Calls PyProof.Rows
set_option maxHeartbeats 8000000 in
theorem PySem.Challenge.cw_shutways_k04_nets_written_holds : PySem.Challenge.rw_shutways_k04_nets_written.Holds := by
  w_on; o_law
  refine HandSHeadRun.head_any (r := SW.RR) (q := view SW.RR.prog [27]) (H := SW.hk) (ob := SW.ob) (M := 100000) (loose := SW.loose) (d := HandSHeadRun.topDef SW.RR.prog 27) (kwd := []) SW.ob_eq
    (by kernel_rfl) (fun s => by kernel_rfl) SW.topRunEq (by kernel_rfl) (by kernel_rfl) (by kernel_rfl) (by rfl) (by first | assumption | decide +kernel) (by decide +kernel) ⟨rfl, rfl, rfl, rfl, rfl, by decide +kernel⟩ ?hw ?hc
  case hw => w_witness2
  case hc =>
    refine SW.law_end (l := PySem.Challenge.rw_shutways_k04_nets_written) (n := 63) (k := SW.depth) (P := SW.P0) (T := SW.T) (x := "script") (f := SW.f_law) (fd0 := ⟨1, 9, SW.b_law⟩) rfl (by decide) (by kernel_rfl) ⟨rfl, by decide, by decide⟩ rfl rfl ?F SW.law_ok
    intro w mg fa h Y G hmg0
    obtain ⟨K, KX, c, hx⟩ := Y
    have hmg : mg ("law" : PySem.Str) = some (.ref fa) := by
      have e : (HandSHeadRun.topDef SW.RR.prog 27).name = ("law" : PySem.Str) := by kernel_rfl
      rw [← e]
      exact hmg0
    obtain ⟨fd, ps, hF, hps⟩ := SW.fl_law c
    subst hps
    have e := hmg.symm.trans (He.glo_ok KX G (c.fact 15))
    cases e
    exact ⟨SW.mkC K, SW.G0, SW.adr K, fd, KX, SW.link_ok KX G c hx, rfl, hF⟩
