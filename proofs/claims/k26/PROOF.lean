import PyProof.Rows.All
import Wide.All
import OpenK.AllK
import Wide.FinOn
import HandS.ForMost
import HandS.ForExc
import HandS.Deep
import HandS.Strs
import HandS.Rev
import HandS.Conv
import HandS.More
import KE.KDictKeyed
import KE.KeyNested
import HandS.HeadHook4
import HandS.HeadEnd
import HandS.HeadWalk
import HandS.Head4
import HandS.SetKeys
import HandS.RaiseMore
import HandS.ClsMeth
import HandS.CallSlots
import HandS.NoneIn
import HandS.Walk
import HandS.IsInst
import HandS.SetFor
import HandS.FStr
import HandS.Head0
import HandS.Head1
import HandS.Head2
import Open.Row
import KE.OsArith
import KE.BitLaws
import PySem.Challenge.RW_wormyard_k26_made_by_every_lane
set_option Elab.async false
set_option linter.all false
set_option maxRecDepth 100000
set_option autoImplicit false
/-! Lay, part A: the small language, its store, what a program of it must meet (wp). -/
namespace Ly
open PySem L2

/-! ### values, objects, the store -/
inductive MV where
  | non | bl (b : Bool) | int (i : Int) | str (x : Str) | tup (xs : List MV) | flst (xs : List MV) | loc (n : Nat)
  deriving Inhabited
inductive MO where
  | lst (xs : List MV)
  | dlf (kvs : List (Key × MV))
  | dtp (kvs : List (NestedKey × MV))
  | fdl (kvs : List (Key × MV))
  | ins (c : Nat) (fs : List (Nat × MV))
  deriving Inhabited
structure MX where
  c : Nat
  fs : List (Nat × MV)
abbrev MS := List MO
abbrev MEnv := List (Option MV)
abbrev QV := MV → MS → Prop
abbrev QX := MX → MS → Prop
abbrev MSp := List MV → MS → QV → QX → Prop
/-- the promises: a class (0: none) and a name -/
abbrev Prg := Nat → Nat → Option MSp

/-! ### the small language -/
inductive BOp where
  | add | sub | mul | div | mod | pow | shl | shr | band | bor
  deriving DecidableEq
inductive COp where
  | eq | ne | lt | le | gt | ge | isin | notin | isn | notn
  deriving DecidableEq
inductive BF where
  | len | min2 | max2 | min1 | sum | all | abs | int | str | list | tuple | sorted | divmod | lrange | tuprev | sortset | lenset
  deriving DecidableEq
inductive BM where
  | append | extend | pop | popAt | clear | index | get | setdefault | join | split | startswith | partition | isdigit | lkeys
  deriving DecidableEq
inductive IK where
  | kint | kbool | kstr | klist | ktuple | kown (c : Nat)
  deriving DecidableEq
mutual
inductive Tg where
  | nm (i : Nat)
  | tp (ts : Tgs)
inductive Tgs where
  | nil
  | cons (t : Tg) (r : Tgs)
end
mutual
inductive E where
  | var (i : Nat)
  | non
  | bl (b : Bool)
  | int (i : Int)
  | str (x : Str)
  | glo (i : Nat) (x : Str)
  | tup (es : Es)
  | lst (es : Es)
  | dnew (tk : Bool)
  | ddisp (kvs : Es)
  | bin (o : BOp) (a b : E)
  | neg (a : E)
  | cmp (o : COp) (a b : E)
  | chn (o p : COp) (a b c : E)
  | and_ (a b : E)
  | or_ (a b : E)
  | not_ (a : E)
  | ite (t a b : E)
  | fld (a : E) (f : Nat)
  | ix (a b : E)
  | sl (a : E) (lo hi : Eo)
  | call (f : Nat) (es : Es)
  | make (c : Nat) (es : Es)
  | meth (a : E) (m : Nat) (es : Es)
  | sup (c m : Nat) (es : Es)
  | bf (f : BF) (es : Es)
  | bm (m : BM) (a : E) (es : Es)
  | lc (elt : E) (tg : Tg) (it : It) (tst : Eo) (vs : List Nat)
  | isi (a : E) (k : IK)
  | fst (parts : Es)
inductive Es where
  | nil
  | cons (e : E) (r : Es)
inductive Eo where
  | no
  | so (e : E)
inductive It where
  | seq (e : E)
  | rng (es : Es)
  | enm (e : E)
  | dk (e : E)
end
mutual
inductive S where
  | ex (e : E)
  | asg (t : Tg) (e : E)
  | setf (o : E) (f : Nat) (e : E)
  | seti (o i e : E)
  | aug (i : Nat) (e : E)
  | ife (t : E) (a b : Ss)
  | whl (t : E) (b : Ss)
  | fr (tg : Tg) (it : It) (b : Ss)
  | ret (e : E)
  | retn
  | brk
  | cnt
  | pas
  | rse (c : Nat) (es : Es)
  | rne
  | trn (b : Ss)
inductive Ss where
  | nil
  | cons (s : S) (r : Ss)
end

/-! ### values by operators -/
mutual
def keyOf : MV → Option NestedKey
  | .non => some .none
  | .int i => some (.num i)
  | .str x => some (.text x)
  | .tup xs => (match keysOf xs with
    | some ks => some (.tup ks)
    | none => none)
  | _ => none
def keysOf : List MV → Option (List NestedKey)
  | [] => some []
  | x :: r => (match keyOf x, keysOf r with
    | some k, some ks => some (k :: ks)
    | _, _ => none)
end
def tkeyOf : MV → Option NestedKey
  | .tup xs => keyOf (.tup xs)
  | _ => none
def leafOf : MV → Option Key
  | .int i => some (.inl i)
  | .str x => some (.inr x)
  | _ => none
def ofLeaf : Key → MV
  | .inl i => .int i
  | .inr x => .str x
mutual
/-- plain data behind a value: lists as they stand -/
inductive Dat (s : MS) : MV → PyData → Prop
  | non : Dat s .non .none
  | bl (b : Bool) : Dat s (.bl b) (.bool b)
  | int (i : Int) : Dat s (.int i) (.int i)
  | str (x : Str) : Dat s (.str x) (.str x)
  | tup {xs : List MV} {ds : List PyData} : Dats s xs ds → Dat s (.tup xs) (.tuple ds)
  | flst {xs : List MV} {ds : List PyData} : Dats s xs ds → Dat s (.flst xs) (.list ds)
  | lst {n : Nat} {xs : List MV} {ds : List PyData} : s[n]? = some (.lst xs) → Dats s xs ds → Dat s (.loc n) (.list ds)
inductive Dats (s : MS) : List MV → List PyData → Prop
  | nil : Dats s [] []
  | cons {x : MV} {xs : List MV} {d : PyData} {ds : List PyData} : Dat s x d → Dats s xs ds → Dats s (x :: xs) (d :: ds)
end
def flat : MV → Bool
  | .non | .bl _ | .int _ | .str _ => true
  | _ => false
def eqF : MV → MV → Bool
  | .non, .non => true
  | .bl a, .bl b => a == b
  | .int a, .int b => decide (a = b)
  | .bl a, .int b => decide ((if a then 1 else 0) = b)
  | .int a, .bl b => decide (a = (if b then 1 else 0))
  | .str a, .str b => decide (a = b)
  | _, _ => false
def inF (x : MV) (xs : List MV) : Bool := xs.any fun y => eqF y x
def big : Nat := 16777216

def lkD {κ : Type} [DecidableEq κ] (k : κ) : List (κ × MV) → Option MV
  | [] => none
  | (q, u) :: r => if q = k then some u else lkD k r
def lkM (f : Nat) : List (Nat × MV) → Option MV
  | [] => none
  | (q, u) :: r => if q = f then some u else lkM f r
def binW (o : BOp) (x y : MV) (s : MS) (Q : QV) : Prop := match o, x, y with
  | .add, .int i, .int j => Q (.int (i + j)) s
  | .add, .str i, .str j => i.length + j.length ≤ sizeLine ∧ Q (.str (i ++ j)) s
  | .add, .loc a, .loc b => (match s[a]?, s[b]? with
    | some (.lst xs), some (.lst ys) => xs.length + ys.length ≤ sizeLine ∧ Q (.loc s.length) (s ++ [.lst (xs ++ ys)])
    | _, _ => False)
  | .add, .tup xs, .tup ys => xs ≠ [] ∧ xs.length + ys.length ≤ sizeLine ∧ Q (.tup (xs ++ ys)) s
  | .sub, .int i, .int j => Q (.int (i - j)) s
  | .mul, .int i, .int j => CMul i j ∧ Q (.int (i * j)) s
  | .mul, .loc a, .int k => (match s[a]? with
    | some (.lst xs) => (-(2 ^ 63) ≤ k ∧ k < 2 ^ 63) ∧ xs.length * k.toNat ≤ sizeLine ∧ Q (.loc s.length) (s ++ [.lst (List.replicate k.toNat xs).flatten])
    | _ => False)
  | .div, .int i, .int j => CDivN i j ∧ Q (.int (i.fdiv j)) s
  | .mod, .int i, .int j => j ≠ 0 ∧ Q (.int (i.fmod j)) s
  | .pow, .int i, .int j => CPow i j ∧ Q (.int (i ^ j.toNat)) s
  | .shl, .int i, .int j => CPow i j ∧ Q (.int (i * 2 ^ j.toNat)) s
  | .shr, .int i, .int j => 0 ≤ j ∧ Q (.int (i / 2 ^ j.toNat)) s
  | .band, .int i, .int j => Q (.int (Builtin.bitAnd i j)) s
  | .bor, .int i, .int j => Q (.int (Builtin.bitOr i j)) s
  | _, _, _ => False
def eqW (x y : MV) (s : MS) (Q : Bool → Prop) : Prop := match x, y with
  | .int i, .int j => Q (decide (i = j))
  | .str i, .str j => Q (decide (i = j))
  | .non, .non => Q true
  | .non, .int _ => Q false
  | .int _, .non => Q false
  | _, _ => ∃ d e, Dat s x d ∧ Dat s y e ∧ SeqAt.shaped d = true ∧ SeqAt.shaped e = true ∧ Q (PyData.eqv d e)
/-- x in y -/
def inW (x y : MV) (s : MS) (Q : Bool → Prop) : Prop := match y with
  | .tup ys => flat x = true ∧ ys.all flat = true ∧ Q (inF x ys)
  | .loc n => (match s[n]? with
    | some (.lst ys) => (flat x = true ∧ ys.all flat = true ∧ Q (inF x ys)) ∨ (∃ d ds, Dat s x d ∧ Dats s ys ds ∧ SeqAt.shaped d = true ∧ SeqAt.shaped (.list ds) = true ∧ Q (ds.any fun e => PyData.eqv e d))
    | some (.dlf kvs) => (match leafOf x with
      | some k => Q (lkD k kvs).isSome
      | none => False)
    | some (.fdl kvs) => (match leafOf x with
      | some k => Q (lkD k kvs).isSome
      | none => False)
    | some (.dtp kvs) => (match tkeyOf x with
      | some k => k.depth ≤ 8 ∧ Q (lkD k kvs).isSome
      | none => False)
    | _ => False)
  | .str z => (match x with
    | .str y => Q (!(Builtin.Str.occurrences z y 0 z.length 1).isEmpty)
    | _ => False)
  | _ => False
def cmpW (o : COp) (x y : MV) (s : MS) (Q : Bool → Prop) : Prop := match o with
  | .eq => eqW x y s Q
  | .ne => eqW x y s fun b => Q (!b)
  | .lt => (match x, y with
    | .int i, .int j => Q (decide (i < j))
    | _, _ => False)
  | .le => (match x, y with
    | .int i, .int j => Q (decide (i ≤ j))
    | _, _ => False)
  | .gt => (match x, y with
    | .int i, .int j => Q (decide (j < i))
    | _, _ => False)
  | .ge => (match x, y with
    | .int i, .int j => Q (decide (j ≤ i))
    | _, _ => False)
  | .isin => inW x y s Q
  | .notin => inW x y s fun b => Q (!b)
  | .isn => (match y with
    | .non => (match x with
      | .non => Q true
      | _ => Q false)
    | _ => False)
  | .notn => (match y with
    | .non => (match x with
      | .non => Q false
      | _ => Q true)
    | _ => False)
def atW (xs : List MV) (y : MV) (s : MS) (Q : QV) : Prop := match y with
  | .int i => (match atI xs i with
    | some v => Q v s
    | none => False)
  | _ => False
def lkW (kvs : List (Key × MV)) (y : MV) (s : MS) (Q : QV) : Prop := match leafOf y with
  | some k => (match lkD k kvs with
    | some v => Q v s
    | none => False)
  | none => False
def ixW (x y : MV) (s : MS) (Q : QV) : Prop := match x with
  | .loc n => (match s[n]? with
    | some (.lst xs) => atW xs y s Q
    | some (.dlf kvs) => lkW kvs y s Q
    | some (.fdl kvs) => lkW kvs y s Q
    | some (.dtp kvs) => (match tkeyOf y with
      | some k => (match lkD k kvs with
        | some v => k.depth ≤ 8 ∧ Q v s
        | none => False)
      | none => False)
    | _ => False)
  | .tup xs => atW xs y s Q
  | .flst xs => atW xs y s Q
  | .str z => (match y with
    | .int i => (match atI z.cps.toList i with
      | some c => z.length ≤ sizeLine ∧ Q (.str ⟨#[c]⟩) s
      | none => False)
    | _ => False)
  | _ => False
def cutM (xs : List MV) (lo hi : Option Int) : List MV := (xs.drop (HT.sIx xs.length 0 lo)).take (HT.sIx xs.length xs.length hi - HT.sIx xs.length 0 lo)
def slW (x : MV) (lo hi : Option Int) (s : MS) (Q : QV) : Prop := match x with
  | .loc n => (match s[n]? with
    | some (.lst xs) => Q (.loc s.length) (s ++ [.lst (cutM xs lo hi)])
    | _ => False)
  | .flst xs => Q (.loc s.length) (s ++ [.lst (cutM xs lo hi)])
  | .str z => z.length ≤ sizeLine ∧ Q (.str (cutS z lo hi)) s
  | _ => False
def putD {κ : Type} [DecidableEq κ] (k : κ) (v : MV) : List (κ × MV) → List (κ × MV)
  | [] => [(k, v)]
  | (q, u) :: r => if q = k then (k, v) :: r else (q, u) :: putD k v r
def putM (f : Nat) (v : MV) : List (Nat × MV) → List (Nat × MV)
  | [] => [(f, v)]
  | (q, u) :: r => if q = f then (f, v) :: r else (q, u) :: putM f v r
/-- o[i] = v -/
def setW (x y v : MV) (s : MS) (Q : MS → Prop) : Prop := match x with
  | .loc n => (match s[n]? with
    | some (.lst xs) => (match y with
      | .int i => (match ixN xs.length i with
        | some j => Q (s.set n (.lst (xs.set j v)))
        | none => False)
      | _ => False)
    | some (.dlf kvs) => (match leafOf y with
      | some k => kvs.length < sizeLine ∧ Q (s.set n (.dlf (putD k v kvs)))
      | none => False)
    | some (.dtp kvs) => (match tkeyOf y with
      | some k => k.depth ≤ 8 ∧ kvs.length < sizeLine ∧ Q (s.set n (.dtp (putD k v kvs)))
      | none => False)
    | _ => False)
  | _ => False
/-- the list or tuple behind a value -/
def seqOf (x : MV) (s : MS) : Option (List MV) := match x with
  | .loc n => (match s[n]? with
    | some (.lst xs) => some xs
    | _ => none)
  | .tup xs => some xs
  | .flst xs => some xs
  | _ => none
mutual
def ofKey : NestedKey → MV
  | .none => .non
  | .num i => .int i
  | .text x => .str x
  | .tup ks => .tup (ofKeys ks)
def ofKeys : List NestedKey → List MV
  | [] => []
  | k :: r => ofKey k :: ofKeys r
end
def intsOf : List MV → Option (List Int)
  | [] => some []
  | .int i :: r => (match intsOf r with
    | some ns => some (i :: ns)
    | none => none)
  | _ :: _ => none
def blsOf : List MV → Option (List Bool)
  | [] => some []
  | .bl i :: r => (match blsOf r with
    | some ns => some (i :: ns)
    | none => none)
  | _ :: _ => none
def strsOf : List MV → Option (List Str)
  | [] => some []
  | .str i :: r => (match strsOf r with
    | some ns => some (i :: ns)
    | none => none)
  | _ :: _ => none
/-- a built-in function -/
def bfW (f : BF) (vs : List MV) (s : MS) (Q : QV) : Prop := match f, vs with
  | .len, [x] => (match x with
    | .str z => z.length ≤ sizeLine ∧ Q (.int z.length) s
    | _ => (match seqOf x s with
      | some xs => Q (.int xs.length) s
      | none => False))
  | .min2, [.int i, .int j] => Q (.int (if j < i then j else i)) s
  | .max2, [.int i, .int j] => Q (.int (if j > i then j else i)) s
  | .min1, [.loc n] => (match s[n]? with
    | some (.lst xs) => (match intsOf xs with
      | some ns => 0 < ns.length ∧ ∀ m, m ∈ ns → (∀ k ∈ ns, m ≤ k) → Q (.int m) s
      | none => False)
    | _ => False)
  | .sum, [.loc n] => (match s[n]? with
    | some (.lst xs) => (match intsOf xs with
      | some ns => Q (.int ns.sum) s
      | none => False)
    | _ => False)
  | .all, [.loc n] => (match s[n]? with
    | some (.lst xs) => (match blsOf xs with
      | some ns => Q (.bl (ns.all id)) s
      | none => False)
    | _ => False)
  | .abs, [.int i] => Q (.int (if i < 0 then -i else i)) s
  | .int, [.int i] => Q (.int i) s
  | .int, [.bl b] => Q (.int (if b then 1 else 0)) s
  | .int, [.str a] => (match intText? a with
    | some n => a.length ≤ 640 ∧ Q (.int n) s
    | none => False)
  | .str, [.int i] => i.natAbs.log2 < 1920 ∧ Q (.str (toString i)) s
  | .str, [.str y] => Q (.str y) s
  | .str, [.non] => Q (.str "None") s
  | .list, [x] => (match seqOf x s with
    | some xs => Q (.loc s.length) (s ++ [.lst xs])
    | none => False)
  | .tuple, [x] => (match seqOf x s with
    | some xs => Q (.tup xs) s
    | none => False)
  | .divmod, [.int i, .int j] => CDiv i j ∧ Q (.tup [.int (i / j), .int (i % j)]) s
  | .lrange, [.int n] => (0 ≤ n ∧ n ≤ 10000000) ∧ Q (.loc s.length) (s ++ [.lst ((List.range n.toNat).map fun (i : Nat) => MV.int (i : Int))])
  | .tuprev, [.loc n] => (match s[n]? with
    | some (.lst xs) => Q (.tup xs.reverse) s
    | _ => False)
  | .sortset, [.loc n] => (match s[n]? with
    | some (.lst xs) => (match intsOf xs with
      | some ns => ns.length < 64 ∧ ∀ ms : List Int, ms.Pairwise (· < ·) → (∀ i, i ∈ ms ↔ i ∈ ns) → Q (.loc s.length) (s ++ [.lst (ms.map .int)])
      | none => False)
    | _ => False)
  | _, _ => False
/-- which built-in type: 0 list, 1 dict, 2 str -/
def kindM (x : MV) (s : MS) : Option Nat := match x with
  | .loc n => (match s[n]? with
    | some (.lst _) => some 0
    | some (.dlf _) => some 1
    | some (.dtp _) => some 1
    | some (.fdl _) => some 1
    | _ => none)
  | .str _ => some 2
  | _ => none
def bmK : BM → Nat
  | .append => 0 | .extend => 0 | .pop => 0 | .popAt => 0 | .clear => 0 | .index => 0
  | .get => 1 | .setdefault => 1 | .lkeys => 1
  | .join => 2 | .split => 2 | .startswith => 2 | .partition => 2 | .isdigit => 2
/-- a built-in method -/
def bmW (m : BM) (x : MV) (vs : List MV) (s : MS) (Q : QV) : Prop := match m, x, vs with
  | .append, .loc n, [v] => (match s[n]? with
    | some (.lst xs) => xs.length < sizeLine ∧ Q .non (s.set n (.lst (xs ++ [v])))
    | _ => False)
  | .extend, .loc n, [.loc b] => (match s[n]?, s[b]? with
    | some (.lst xs), some (.lst ys) => xs.length + ys.length ≤ sizeLine ∧ Q .non (s.set n (.lst (xs ++ ys)))
    | _, _ => False)
  | .pop, .loc n, [] => (match s[n]? with
    | some (.lst xs) => (match xs[xs.length - 1]? with
      | some y => Q y (s.set n (.lst xs.dropLast))
      | none => False)
    | _ => False)
  | .popAt, .loc n, [.int i] => (match s[n]? with
    | some (.lst xs) => i = 0 ∧ (match xs with
      | y :: r => Q y (s.set n (.lst r))
      | [] => False)
    | _ => False)
  | .clear, .loc n, [] => (match s[n]? with
    | some (.lst xs) => Q .non (s.set n (.lst []))
    | _ => False)
  | .index, .loc n, [y] => (match s[n]? with
    | some (.lst xs) => (flat y = true ∧ xs.all flat = true ∧ ∃ j z, xs[j]? = some z ∧ eqF z y = true ∧ (∀ k z', k < j → xs[k]? = some z' → eqF z' y = false) ∧ Q (.int (j : Nat)) s) ∨
      ∃ d ds j z, Dat s y d ∧ Dats s xs ds ∧ SeqAt.shaped (.list ds) = true ∧ SeqAt.shaped d = true ∧ ds[j]? = some z ∧ PyData.eqv z d = true ∧ (∀ (m : Nat) (z' : PyData), m < j → ds[m]? = some z' → PyData.eqv z' d = false) ∧ Q (.int (j : Nat)) s
    | _ => False)
  | .join, .str a, [.loc n] => (match s[n]? with
    | some (.lst xs) => (match strsOf xs with
      | some ys => (ys.map (·.length)).sum + ys.length * a.length ≤ 16777216 ∧ Q (.str (Txt.join a ys)) s
      | none => False)
    | _ => False)
  | .split, .str a, [.str b] => (b.length == 0) = false ∧ a.length + 2 ≤ sizeLine ∧ Q (.loc s.length) (s ++ [.lst ((Txt.split a b).map .str)])
  | .startswith, .str a, [.str b] => Q (.bl (Txt.startswith a b)) s
  | .partition, .str a, [.str b] => (b.length == 0) = false ∧ a.length ≤ sizeLine ∧ Q (.tup [.str (Txt.partition a b).1, .str (Txt.partition a b).2.1, .str (Txt.partition a b).2.2]) s
  | .get, .loc n, [y, d] => (match s[n]? with
    | some (.dlf kvs) => (match leafOf y with
      | some k => Q ((lkD k kvs).getD d) s
      | none => False)
    | some (.dtp kvs) => (match tkeyOf y with
      | some k => k.depth ≤ 8 ∧ Q ((lkD k kvs).getD d) s
      | none => False)
    | _ => False)
  | .setdefault, .loc n, [y, d] => (match s[n]? with
    | some (.dlf kvs) => (match leafOf y with
      | some k => kvs.length < sizeLine ∧ (match lkD k kvs with
        | some v => Q v s
        | none => Q d (s.set n (.dlf (putD k d kvs))))
      | none => False)
    | _ => False)
  | .lkeys, .loc n, [] => (match s[n]? with
    | some (.dlf kvs) => Q (.loc s.length) (s ++ [.lst (kvs.map fun p => ofLeaf p.1)])
    | _ => False)
  | _, _, _ => False
def isiW (k : IK) (x : MV) (s : MS) : Option Bool := match k with
  | .kown _ => none
  | _ => (match x with
    | .non => some false
    | .bl _ => some (k == .kbool || k == .kint)
    | .int _ => some (k == .kint)
    | .str _ => some (k == .kstr)
    | .tup _ => some (k == .ktuple)
    | .flst _ => some (k == .klist)
    | .loc n => (match s[n]? with
      | some (.lst _) => some (k == .klist)
      | _ => none))
/-! ### walks -/
/-- what stands still while it is walked -/
inductive Still where
  | free
  | obj (n : Nat) (xs : List MV)
  | dct (n : Nat) (kvs : List (Key × MV))
def Still.ok (t : Still) (s : MS) : Prop := match t with
  | .free => True
  | .obj n xs => s[n]? = some (.lst xs)
  | .dct n kvs => s[n]? = some (.fdl kvs)
/-- a dict is locked while it is walked -/
def Still.out (t : Still) (s : MS) (k : MS → Prop) : Prop := match t with
  | .dct n kvs => s[n]? = some (.fdl kvs) ∧ k (s.set n (.dlf kvs))
  | _ => k s
def signsM (z : Str) : List MV := z.cps.toList.map fun c => .str ⟨#[c]⟩
def seqIt (x : MV) (s : MS) : Option (List MV × Still) := match x with
  | .str z => some (signsM z, .free)
  | .loc n => (match s[n]? with
    | some (.lst xs) => some (xs, .obj n xs)
    | _ => none)
  | .tup xs => some (xs, .free)
  | .flst xs => some (xs, .free)
  | _ => none
def enmIt (x : MV) (s : MS) : Option (List MV × Still) := match x with
  | .loc n => (match s[n]? with
    | some (.lst xs) => some (xs.zipIdx.map (fun p => .tup [.int (p.2 : Nat), p.1]), .obj n xs)
    | _ => none)
  | _ => none
def rngIt (lo hi : Int) : List MV := (List.range (hi - lo).toNat).map fun (i : Nat) => MV.int (lo + (i : Int))
mutual
def tgW : Tg → MV → MEnv → MS → (MEnv → Prop) → Prop
  | .nm i, v, σ, _, k => k (σ.set i (some v))
  | .tp ts, v, σ, s, k => (match v with
    | .tup xs => tgsW ts xs σ s k
    | .loc n => (match s[n]? with
      | some (.lst xs) => tgsW ts xs σ s k
      | _ => False)
    | _ => False)
def tgsW : Tgs → List MV → MEnv → MS → (MEnv → Prop) → Prop
  | .nil, vs, σ, _, k => vs = [] ∧ k σ
  | .cons t r, vs, σ, s, k => (match vs with
    | v :: us => tgW t v σ s fun σ1 => tgsW r us σ1 s k
    | [] => False)
end
/-- a walk's turns -/
def forL (tg : MV → MEnv → MS → (MEnv → Prop) → Prop) (b : MEnv → MS → (MEnv → MS → Prop) → Prop) (t : Still) (nx : MEnv → MS → Prop) : List MV → MEnv → MS → Prop
  | [], σ, s => t.ok s ∧ nx σ s
  | x :: r, σ, s => t.ok s ∧ tg x σ s fun σ1 => b σ1 s fun σ2 s2 => forL tg b t nx r σ2 s2
/-- a comprehension's turns -/
def lcL (tg : MV → MEnv → MS → (MEnv → Prop) → Prop) (tt : MEnv → MS → (Bool → MS → Prop) → Prop) (te : MEnv → MS → QV → Prop) (t : Still) (σ : MEnv) (D : Nat) (Q : MS → Prop) : List MV → MS → Prop
  | [], s => t.ok s ∧ Q s
  | x :: r, s => t.ok s ∧ tg x σ s fun σ1 => tt σ1 s fun b s1 => if b = true then te σ1 s1 fun v s2 => (match s2[D]? with
      | some (.lst acc) => acc.length < sizeLine ∧ lcL tg tt te t σ D Q r (s2.set D (.lst (acc ++ [v])))
      | _ => False) else lcL tg tt te t σ D Q r s1
def wipeM (σ : MEnv) : List Nat → MEnv
  | [] => σ
  | v :: vs => (wipeM σ vs).set v none
/-- the names -/
def nmT : List String := [
  "__init__", "_wall", "has", "YardError", "NoPlaces", "TooMany", "many", "NoRoad",
  "lane", "NotMet", "NoRooms", "NoMove", "starts", "ways_on", "met", "come_by",
  "way_to", "Land", "places", "lanes", "start_of", "end_of", "out_of", "into",
  "Table", "land", "ways", "Less", "first_starts", "alive", "known", "goals_of",
  "know", "left_of", "cut_off", "joined", "RowFirst", "wide", "Loop", "round",
  "are_parents", "Tree", "aboves", "distances", "Nearer", "far", "Lane", "room",
  "rights", "back", "holder", "queue", "open_to", "put", "front", "pull",
  "bring", "told", "like", "whole", "Yard", "table", "tracks", "letters",
  "heaps", "past", "post", "entries", "goings", "lies", "moves", "enter",
  "do", "ended", "lane_told", "letter_told", "way_told", "lying", "posted", "history",
  "twin", "_law_cell_at", "_law_digit", "_law_pairs", "_law_parents", "_law_rows", "_law_table", "_law_way",
  "_law_ways_right", "_law_sizes_right", "_law_rooms_right", "law", "sent", "length", "way", "spots",
  "start", "goal", "NoEntry", "row", "NoText", "Told", "is_good", "row_text",
  "way_rows", "table_text", "number_of", "numbers_of", "entry_of", "table_of", "rows_of", "read_table",
  "_law_row_lanes", "_law_row_ways", "_law_loop_ways", "_law_tree_ways", "_law_far", "_law_near_ways", "_law_ways", "_law_text",
  "_law_right", "_law_rows_right", "_law_loop_right", "_law_tree_right", "members", "lost", "are_sized", "start_fault",
  "pair_fault", "fault", "led_to", "going_on", "ring_of", "longest_of", "look", "_law_many",
  "still", "stand_key", "followers", "search", "NoPlace", "NoLength", "NoWord", "NoWay",
  "Full", "Letter", "word", "_law_lanes", "_law_world", "_law_key", "_law_still", "_law_gone_over",
  "_law_due", "set_of", "NoRow", "run", "wanted_of", "waits", "refuse_unless", "whole_of",
  "wholes_of", "signed_of", "pair_of", "words_of", "move_shown", "pieces_shown", "told_or", "wanted_shown",
  "made_by", "look_shown", "question_of", "place_of", "Desk", "yard", "say", "lane_named",
  "made_new", "move_of", "deed", "told_about", "_law_made", "_law_cut", "_law_out", "_law_words",
  "_law_land", "_law_comings", "_law_drawn", "_law_nearest", "_law_alive", "_law_left", "_law_starts", "_law_same_yard",
  "_law_begun", "_law_desk_right", "room_of", "yard_text", "redo", "yard_of", "read_yard", "_law_room",
  "_law_yard", "_law_told", "_law_read", "_law_spoilt", "_law_spoilt_right", "_law_piece", "_law_move_words", "_law_or_none",
  "_law_lane_text", "_law_waits_text", "_law_asked", "_law_great_pairs", "_law_posted", "_law_run_alike", "_law_new", "_law_asked_alike",
  "_law_word", "_law_with", "_law_beyond", "_law_all_none", "_law_post", "most_moves", "_law_own", "_law_copied",
  "_law_open", "_law_wanted", "_law_moves", "_law_entered", "_law_done", "_law_is_whole", "_law_refused", "_law_like",
  "_law_waits", "_law_letter", "_law_deed", "_law_mixed", "_law_joined", "_law_move", "_law_look", "_law_pieces",
  "_law_lane", "_law_answer", "_law_row", "_law_names", "_law_both", "_law_everything", "_law_is_refused", "stand_of",
  "_law_other", "_law_spoil", "_law_head", "_law_anew", "_law_filled", "FIGURES"]
def nmOf (i : Nat) : Str := Str.ofString (nmT.getD i "?")
/-- which class has a method: (class * 1000 + method, class) -/
def mresT : List (Nat × Nat) := [
  (17000, 17), (17020, 17), (17021, 17), (17022, 17), (17023, 17), (24000, 24), (24026, 24), (101000, 101), (101102, 101), (101026, 101),
  (36000, 36), (36026, 36), (38000, 38), (38026, 38), (41000, 41), (41026, 41), (44000, 44), (44026, 44)]
def mres (c m : Nat) : Option Nat := mresT.lookup (c * 1000 + m)
theorem mr_Land_init : mres 17 0 = some 17 := rfl
theorem mr_Land_start_of : mres 17 20 = some 17 := rfl
theorem mr_Land_end_of : mres 17 21 = some 17 := rfl
theorem mr_Land_out_of : mres 17 22 = some 17 := rfl
theorem mr_Land_into : mres 17 23 = some 17 := rfl
theorem mr_Table_init : mres 24 0 = some 24 := rfl
theorem mr_Table_ways : mres 24 26 = some 24 := rfl
theorem mr_Told_init : mres 101 0 = some 101 := rfl
theorem mr_Told_is_good : mres 101 102 = some 101 := rfl
theorem mr_Told_ways : mres 101 26 = some 101 := rfl
theorem mr_RowFirst_init : mres 36 0 = some 36 := rfl
theorem mr_RowFirst_ways : mres 36 26 = some 36 := rfl
theorem mr_Loop_init : mres 38 0 = some 38 := rfl
theorem mr_Loop_ways : mres 38 26 = some 38 := rfl
theorem mr_Tree_init : mres 41 0 = some 41 := rfl
theorem mr_Tree_ways : mres 41 26 = some 41 := rfl
theorem mr_Nearer_init : mres 44 0 = some 44 := rfl
theorem mr_Nearer_ways : mres 44 26 = some 44 := rfl
/-- what fills up the arguments -/
def dfltT : List (Nat × List MV) := []
def dflt (c m n : Nat) : List MV := (dfltT.lookup ((c * 1000 + m) * 100 + n)).getD []
theorem dflt_nil (c m n : Nat) : dflt c m n = [] := rfl
/-- the texts of the module -/
def constT : List (Nat × Str) := [(253, "0123456789")]


def callW (Γ : Prg) (c m : Nat) (k : MSp → Prop) : Prop := match Γ c m with
  | some sp => k fun vs => sp (vs ++ dflt c m vs.length)
  | none => False
def methW (Γ : Prg) (n m : Nat) (s : MS) (k : Nat → Prop) : Prop := match s[n]? with
  | some (.ins c _) => (match mres c m with
    | some d => k d
    | none => False)
  | _ => False
/-- the name of __init__ -/
abbrev iInit : Nat := 0
def fldW (x : MV) (f : Nat) (s : MS) (Q : QV) : Prop := match x with
  | .loc n => (match s[n]? with
    | some (.ins _ fs) => (match lkM f fs with
      | some v => Q v s
      | none => False)
    | _ => False)
  | _ => False
def setfW (x : MV) (f : Nat) (v : MV) (s : MS) (Q : MS → Prop) : Prop := match x with
  | .loc n => (match s[n]? with
    | some (.ins c fs) => fs.length < 1000 ∧ Q (s.set n (.ins c (putM f v fs)))
    | _ => False)
  | _ => False
def dispW : List MV → Option (List (Key × MV))
  | [] => some []
  | k :: v :: r => (match leafOf k, dispW r with
    | some q, some kvs => some ((q, v) :: kvs)
    | _, _ => none)
  | _ => none
/-- a value in a text -/
def fmt1 : MV → Option Str
  | .str y => if y.length ≤ sizeLine then some y else none
  | .int i => if i.natAbs.log2 < 1920 then some (toString i) else none
  | _ => none
/-! ### what an expression must meet -/
mutual
def wpE (Γ : Prg) : E → MEnv → MS → QV → QX → Prop
  | .var i, σ, s, Q, _ => (match σ[i]? with
    | some (some v) => Q v s
    | _ => False)
  | .non, _, s, Q, _ => Q .non s
  | .bl b, _, s, Q, _ => Q (.bl b) s
  | .int i, _, s, Q, _ => Q (.int i) s
  | .str x, _, s, Q, _ => Q (.str x) s
  | .glo _ x, _, s, Q, _ => Q (.str x) s
  | .tup es, σ, s, Q, R => wpEs Γ es σ s (fun vs s1 => vs.length ≤ sizeLine ∧ Q (.tup vs) s1) R
  | .lst es, σ, s, Q, R => wpEs Γ es σ s (fun vs s1 => vs.length ≤ sizeLine ∧ Q (.loc s1.length) (s1 ++ [.lst vs])) R
  | .dnew tk, _, s, Q, _ => Q (.loc s.length) (s ++ [if tk then .dtp [] else .dlf []])
  | .ddisp kvs, σ, s, Q, R => wpEs Γ kvs σ (s ++ [.dlf []]) (fun vs s1 => (match dispW vs with
    | some ks => s1[s.length]? = some (.dlf []) ∧ (ks.map (·.1)).Nodup ∧ ks.length ≤ 15 ∧ Q (.loc s.length) (s1.set s.length (.dlf ks))
    | none => False)) R
  | .bin o a b, σ, s, Q, R => wpE Γ a σ s (fun x s1 => wpE Γ b σ s1 (fun y s2 => binW o x y s2 Q) R) R
  | .neg a, σ, s, Q, R => wpE Γ a σ s (fun x s1 => (match x with
    | .int i => Q (.int (-i)) s1
    | _ => False)) R
  | .cmp o a b, σ, s, Q, R => wpE Γ a σ s (fun x s1 => wpE Γ b σ s1 (fun y s2 => cmpW o x y s2 fun k => Q (.bl k) s2) R) R
  | .chn o p a b c, σ, s, Q, R => wpE Γ a σ s (fun x s1 => wpE Γ b σ s1 (fun y s2 => cmpW o x y s2 fun k => if k = true then wpE Γ c σ s2 (fun z s3 => cmpW p y z s3 fun k2 => Q (.bl k2) s3) R else Q (.bl false) s2) R) R
  | .and_ a b, σ, s, Q, R => wpE Γ a σ s (fun x s1 => (match x with
    | .bl true => wpE Γ b σ s1 Q R
    | .bl false => Q (.bl false) s1
    | _ => False)) R
  | .or_ a b, σ, s, Q, R => wpE Γ a σ s (fun x s1 => (match x with
    | .bl true => Q (.bl true) s1
    | .bl false => wpE Γ b σ s1 Q R
    | _ => False)) R
  | .not_ a, σ, s, Q, R => wpE Γ a σ s (fun x s1 => (match x with
    | .bl k => Q (.bl (!k)) s1
    | _ => False)) R
  | .ite t a b, σ, s, Q, R => wpE Γ t σ s (fun x s1 => (match x with
    | .bl true => wpE Γ a σ s1 Q R
    | .bl false => wpE Γ b σ s1 Q R
    | _ => False)) R
  | .fld a f, σ, s, Q, R => wpE Γ a σ s (fun x s1 => fldW x f s1 Q) R
  | .ix a b, σ, s, Q, R => wpE Γ a σ s (fun x s1 => wpE Γ b σ s1 (fun y s2 => ixW x y s2 Q) R) R
  | .sl a lo hi, σ, s, Q, R => wpE Γ a σ s (fun x s1 => wpO Γ lo σ s1 (fun l s2 => wpO Γ hi σ s2 (fun h s3 => slW x l h s3 Q) R) R) R
  | .call f es, σ, s, Q, R => callW Γ 0 f fun sp => wpEs Γ es σ s (fun vs s1 => sp vs s1 Q R) R
  | .make c es, σ, s, Q, R => (match mres c iInit with
    | some d => callW Γ d iInit fun sp => wpEs Γ es σ s (fun vs s1 => sp (.loc s1.length :: vs) (s1 ++ [.ins c []]) (fun v s2 => v = .non ∧ Q (.loc s1.length) s2) R) R
    | none => False)
  | .meth a m es, σ, s, Q, R => wpE Γ a σ s (fun x s1 => (match x with
    | .loc n => methW Γ n m s1 fun d => callW Γ d m fun sp => wpEs Γ es σ s1 (fun vs s2 => sp (.loc n :: vs) s2 Q R) R
    | _ => False)) R
  | .sup c m es, σ, s, Q, R => callW Γ c m fun sp => wpEs Γ es σ s (fun vs s1 => sp vs s1 Q R) R
  | .bf f es, σ, s, Q, R => wpEs Γ es σ s (fun vs s1 => bfW f vs s1 Q) R
  | .bm m a es, σ, s, Q, R => wpE Γ a σ s (fun x s1 => kindM x s1 = some (bmK m) ∧ wpEs Γ es σ s1 (fun vs s2 => bmW m x vs s2 Q) R) R
  | .lc elt tg it tst vs, σ, s, Q, R => wpI Γ it σ s (fun xs t s1 =>
      lcL (tgW tg) (fun σ1 s2 k => wpT Γ tst σ1 s2 k) (fun σ1 s2 k => wpE Γ elt σ1 s2 k (fun _ _ => False)) t (wipeM σ vs) s1.length (fun s2 => t.out s2 (Q (.loc s1.length))) xs (s1 ++ [.lst []])) R
  | .isi a k, σ, s, Q, R => wpE Γ a σ s (fun x s1 => (match isiW k x s1 with
    | some b => Q (.bl b) s1
    | none => False)) R
  | .fst ps, σ, s, Q, R => wpF Γ ps Str.empty σ s (fun z s1 => Q (.str z) s1) R
def wpEs (Γ : Prg) : Es → MEnv → MS → (List MV → MS → Prop) → QX → Prop
  | .nil, _, s, Q, _ => Q [] s
  | .cons e r, σ, s, Q, R => wpE Γ e σ s (fun v s1 => wpEs Γ r σ s1 (fun vs s2 => Q (v :: vs) s2) R) R
/-- the parts of a text, one behind the other -/
def wpF (Γ : Prg) : Es → Str → MEnv → MS → (Str → MS → Prop) → QX → Prop
  | .nil, acc, _, s, Q, _ => Q acc s
  | .cons e r, acc, σ, s, Q, R => wpE Γ e σ s (fun v s1 => (match fmt1 v with
    | some y => (acc ++ y).length ≤ sizeLine ∧ wpF Γ r (acc ++ y) σ s1 Q R
    | none => False)) R
def wpO (Γ : Prg) : Eo → MEnv → MS → (Option Int → MS → Prop) → QX → Prop
  | .no, _, s, Q, _ => Q none s
  | .so e, σ, s, Q, R => wpE Γ e σ s (fun v s1 => (match v with
    | .int i => Q (some i) s1
    | _ => False)) R
/-- a comprehension's test (none: True) -/
def wpT (Γ : Prg) : Eo → MEnv → MS → (Bool → MS → Prop) → Prop
  | .no, _, s, k => k true s
  | .so e, σ, s, k => wpE Γ e σ s (fun v s1 => (match v with
    | .bl b => k b s1
    | _ => False)) (fun _ _ => False)
def wpI (Γ : Prg) : It → MEnv → MS → (List MV → Still → MS → Prop) → QX → Prop
  | .seq e, σ, s, Q, R => wpE Γ e σ s (fun v s1 => (match seqIt v s1 with
    | some (xs, t) => Q xs t s1
    | none => False)) R
  | .rng es, σ, s, Q, R => wpEs Γ es σ s (fun vs s1 => (match vs with
    | [.int j] => (-(2 ^ 62) ≤ j ∧ j < 2 ^ 62) ∧ Q (rngIt 0 j) .free s1
    | [.int i, .int j] => (-(2 ^ 62) ≤ i ∧ i < 2 ^ 62 ∧ -(2 ^ 62) ≤ j ∧ j < 2 ^ 62) ∧ Q (rngIt i j) .free s1
    | _ => False)) R
  | .enm e, σ, s, Q, R => wpE Γ e σ s (fun v s1 => (match enmIt v s1 with
    | some (xs, t) => Q xs t s1
    | none => False)) R
  | .dk e, σ, s, Q, R => ∃ n kvs, s[n]? = some (.dlf kvs) ∧ wpE Γ e σ (s.set n (.fdl kvs)) (fun v s1 => v = .loc n ∧ s1[n]? = some (.fdl kvs) ∧ Q (kvs.map fun p => ofLeaf p.1) (.dct n kvs) s1) R
end
/-! ### what a statement must meet -/
structure MD where
  nx : MEnv → MS → Prop
  rt : MV → MS → Prop
  bk : MEnv → MS → Prop := fun _ _ => False
  ct : MEnv → MS → Prop := fun _ _ => False
  ex : MX → MEnv → MS → Prop := fun _ _ _ => False
mutual
def wpS (Γ : Prg) : S → MEnv → MS → MD → Prop
  | .ex e, σ, s, D => wpE Γ e σ s (fun _ s1 => D.nx σ s1) (fun x s1 => D.ex x σ s1)
  | .asg t e, σ, s, D => wpE Γ e σ s (fun v s1 => tgW t v σ s1 fun σ1 => D.nx σ1 s1) (fun x s1 => D.ex x σ s1)
  | .setf o f e, σ, s, D => wpE Γ e σ s (fun v s1 => wpE Γ o σ s1 (fun x s2 => setfW x f v s2 fun s3 => D.nx σ s3) (fun x s1 => D.ex x σ s1)) (fun x s1 => D.ex x σ s1)
  | .seti o i e, σ, s, D => wpE Γ e σ s (fun v s1 => wpE Γ o σ s1 (fun x s2 => wpE Γ i σ s2 (fun y s3 => setW x y v s3 fun s4 => D.nx σ s4) (fun x s1 => D.ex x σ s1)) (fun x s1 => D.ex x σ s1)) (fun x s1 => D.ex x σ s1)
  | .aug i e, σ, s, D => (match σ[i]? with
    | some (some (.int a)) => wpE Γ e σ s (fun v s1 => (match v with
      | .int b => D.nx (σ.set i (some (.int (a + b)))) s1
      | _ => False)) (fun x s1 => D.ex x σ s1)
    | _ => False)
  | .ife t a b, σ, s, D => wpE Γ t σ s (fun v s1 => (match v with
    | .bl true => wpSs Γ a σ s1 D
    | .bl false => wpSs Γ b σ s1 D
    | _ => False)) (fun x s1 => D.ex x σ s1)
  | .whl t b, σ, s, D => ∃ W : Nat → MEnv → MS → Prop, (∃ m, W m σ s) ∧ ∀ m σ s, W m σ s → wpE Γ t σ s (fun v s1 => (match v with
      | .bl true => wpSs Γ b σ s1 { D with nx := fun σ' s' => ∃ m', m' < m ∧ W m' σ' s', ct := fun σ' s' => ∃ m', m' < m ∧ W m' σ' s', bk := D.nx }
      | .bl false => D.nx σ s1
      | _ => False)) (fun x s1 => D.ex x σ s1)
  | .fr tg it b, σ, s, D => wpI Γ it σ s (fun xs t s1 => forL (tgW tg) (fun σ1 s2 k => wpSs Γ b σ1 s2 { D with nx := k, ct := k, bk := fun σ3 s3 => t.out s3 (D.nx σ3), rt := fun v s3 => t.out s3 (D.rt v) }) t (fun σ3 s3 => t.out s3 (D.nx σ3)) xs σ s1) (fun x s1 => D.ex x σ s1)
  | .ret e, σ, s, D => wpE Γ e σ s (fun v s1 => D.rt v s1) (fun x s1 => D.ex x σ s1)
  | .retn, _, s, D => D.rt .non s
  | .brk, σ, s, D => D.bk σ s
  | .cnt, σ, s, D => D.ct σ s
  | .pas, σ, s, D => D.nx σ s
  | .rse c es, σ, s, D => False
  | .rne, _, _, _ => False
  | .trn b, σ, s, D => wpSs Γ b σ s { D with ex := fun _ _ _ => False }
def wpSs (Γ : Prg) : Ss → MEnv → MS → MD → Prop
  | .nil, σ, s, D => D.nx σ s
  | .cons st r, σ, s, D => wpS Γ st σ s { D with nx := fun σ1 s1 => wpSs Γ r σ1 s1 D }
end
end Ly
/-! Lay, part B: how the store lies in the heap of the hand layer. -/
namespace Ly
open PySem L2

/-! ### values and objects -/
def clA (K : PySem.W.Frag) (c : Nat) : Addr := He.ga K (nmOf c)
/-- a list that nobody changes: the script -/
def SqF (K : PySem.W.Frag) (H : Hp) (a : Addr) (vs : List V) : Prop :=
  (∃ o, H a = some (.frz o (.lst vs))) ∨ ∃ (o : Obj) (its : Array Value) (n : Nat), K.lookup a = some o ∧ o.cls = .type "list" ∧ o.dict = none ∧ o.data = .seq its n ∧ its.size ≤ sizeLine ∧ Vals vs its.toList
theorem SqF.seq {K : PySem.W.Frag} {H : Hp} {a : Addr} {vs : List V} (h : SqF K H a vs) : SqL K H a vs := by
  rcases h with ⟨o, h⟩ | h
  · exact .inl (.inr ⟨o, h⟩)
  · exact .inr h
mutual
def RV (K : PySem.W.Frag) (ρ : List Addr) (H : Hp) : MV → V → Prop
  | .non, v => v = .non
  | .bl b, v => v = .bl b
  | .int i, v => v = .int i
  | .str x, v => v = .str x
  | .tup xs, v => ∃ a vs, v = .ref a ∧ H a = some (.tup vs) ∧ RVs K ρ H xs vs
  | .flst xs, v => ∃ a vs, v = .ref a ∧ SqF K H a vs ∧ RVs K ρ H xs vs
  | .loc n, v => ∃ a, ρ[n]? = some a ∧ v = .ref a
def RVs (K : PySem.W.Frag) (ρ : List Addr) (H : Hp) : List MV → List V → Prop
  | [], vs => vs = []
  | x :: xs, vs => ∃ v r, vs = v :: r ∧ RV K ρ H x v ∧ RVs K ρ H xs r
end
/-- a dict with tuple keys, by its entries -/
def DtpAt (P : Program) (w : World) (xs : List (NestedKey × Addr × Value)) (a : Addr) (h : Heap) : Prop :=
  (a == sysModules) = false ∧ ∃ o es ep, h.get? a = some o ∧ o.ExactDict ∧ o.data = .dict es ep ∧ es.toList = xs.map (entryOfKey (nestedKind P w))
structure Wd where
  P : Program
  w : World
  K : PySem.W.Frag
  FL : List Nat
/-- a class whose instances stand in the store -/
structure ClsOk (U : Wd) (c : Nat) : Prop where
  cls : Cls U.K (clA U.K c)
  no : ∀ f ∈ U.FL, NoAttr U.K (clA U.K c) (nmOf f)
def RO (U : Wd) (ρ : List Addr) (H : Hp) : MO → Addr → Prop
  | .lst xs, a => ∃ vs, H a = some (.lst vs) ∧ RVs U.K ρ H xs vs
  | .dlf kvs, a => ∃ ws, H a = some (.dK ws) ∧ ws.map (·.1) = kvs.map (·.1) ∧ (kvs.map (·.1)).Nodup ∧ RVs U.K ρ H (kvs.map (·.2)) (ws.map (·.2))
  | .fdl kvs, a => ∃ o ws, H a = some (.frz o (.dK ws)) ∧ ws.map (·.1) = kvs.map (·.1) ∧ (kvs.map (·.1)).Nodup ∧ RVs U.K ρ H (kvs.map (·.2)) (ws.map (·.2))
  | .dtp kvs, a => ∃ (xs : List (NestedKey × Addr × Value)) (ws : List V), H a = some (.ext (DtpAt U.P U.w xs a)) ∧ xs.map (·.1) = kvs.map (·.1) ∧ (kvs.map (·.1)).Nodup ∧ Vals ws (xs.map (·.2.2)) ∧ RVs U.K ρ H (kvs.map (·.2)) ws ∧
      ∀ x ∈ xs, x.1.depth ≤ 8 ∧ RV U.K ρ H (ofKey x.1) (.ref x.2.1)
  | .ins c fs, a => ∃ dx ws, H a = some (.ins (clA U.K c) dx ws) ∧ ws.map (·.1) = fs.map (fun p => nmOf p.1) ∧ RVs U.K ρ H (fs.map (·.2)) (ws.map (·.2)) ∧ ClsOk U c ∧ ∀ p ∈ fs, p.1 ∈ U.FL
structure RH (U : Wd) (ρ : List Addr) (H : Hp) (s : MS) : Prop where
  len : ρ.length = s.length
  nd : ρ.Nodup
  at_ : ∀ (n : Nat) (o : MO), s[n]? = some o → ∃ a, ρ[n]? = some a ∧ RO U ρ H o a
structure RE (K : PySem.W.Frag) (ρ : List Addr) (H : Hp) (env : MEnv) (σ : St) : Prop where
  len : env.length = σ.length
  at_ : ∀ (i : Nat) (v : MV), env[i]? = some (some v) → ∃ x, σ[i]? = some (some x) ∧ RV K ρ H v x
structure Mo (ρ : List Addr) (H : Hp) (ρ' : List Addr) (H' : Hp) : Prop where
  pre : ρ <+: ρ'
  tups : ∀ a vs, H a = some (.tup vs) → H' a = some (.tup vs)
  frzs : ∀ a o u, H a = some (.frz o u) → H' a = some (.frz o u)

section
variable {U : Wd} {K : PySem.W.Frag} {ρ ρ' ρ'' : List Addr} {H H' H'' : Hp} {s s' : MS}
theorem Mo.refl : Mo ρ H ρ H := ⟨List.prefix_refl _, fun _ _ h => h, fun _ _ _ h => h⟩
theorem Mo.trans (a : Mo ρ H ρ' H') (b : Mo ρ' H' ρ'' H'') : Mo ρ H ρ'' H'' :=
  ⟨a.pre.trans b.pre, fun x v h => b.tups x v (a.tups x v h), fun x o u h => b.frzs x o u (a.frzs x o u h)⟩
theorem Mo.at_ (m : Mo ρ H ρ' H') {n : Nat} {a : Addr} (h : ρ[n]? = some a) : ρ'[n]? = some a := by
  obtain ⟨t, rfl⟩ := m.pre
  rw [List.getElem?_append_left (List.getElem?_eq_some_iff.mp h).1]
  exact h
theorem SqF.mono {a : Addr} {vs : List V} (m : Mo ρ H ρ' H') (h : SqF K H a vs) : SqF K H' a vs := by
  rcases h with ⟨o, h⟩ | h
  · exact .inl ⟨o, m.frzs _ _ _ h⟩
  · exact .inr h
mutual
theorem RV.mono (m : Mo ρ H ρ' H') : ∀ (x : MV) (v : V), RV K ρ H x v → RV K ρ' H' x v
  | .non, _, h => h
  | .bl _, _, h => h
  | .int _, _, h => h
  | .str _, _, h => h
  | .tup xs, _, ⟨a, vs, e, h1, h2⟩ => ⟨a, vs, e, m.tups _ _ h1, RVs.mono m xs vs h2⟩
  | .flst xs, _, ⟨a, vs, e, h1, h2⟩ => ⟨a, vs, e, h1.mono m, RVs.mono m xs vs h2⟩
  | .loc n, _, ⟨a, h, e⟩ => ⟨a, m.at_ h, e⟩
theorem RVs.mono (m : Mo ρ H ρ' H') : ∀ (xs : List MV) (vs : List V), RVs K ρ H xs vs → RVs K ρ' H' xs vs
  | [], _, h => h
  | x :: xs, _, ⟨v, r, e, h1, h2⟩ => ⟨v, r, e, RV.mono m x v h1, RVs.mono m xs r h2⟩
end
theorem RE.mono {env : MEnv} {σ : St} (m : Mo ρ H ρ' H') (h : RE K ρ H env σ) : RE K ρ' H' env σ :=
  ⟨h.len, fun i v e => let ⟨x, e1, r⟩ := h.at_ i v e; ⟨x, e1, r.mono m⟩⟩
theorem RVs.length : ∀ {xs : List MV} {vs : List V}, RVs K ρ H xs vs → xs.length = vs.length
  | [], _, h => by rw [show _ = [] from h]; rfl
  | x :: xs, _, ⟨v, r, e, _, h⟩ => by rw [e, List.length_cons, List.length_cons, h.length]
theorem RVs.get : ∀ {xs : List MV} {vs : List V} {i : Nat} {x : MV}, RVs K ρ H xs vs → xs[i]? = some x → ∃ v, vs[i]? = some v ∧ RV K ρ H x v
  | [], _, _, _, _, e => by simp at e
  | y :: xs, _, 0, x, ⟨v, r, e, h1, h2⟩, e2 => by
    simp at e2
    subst e2
    exact ⟨v, by rw [e]; rfl, h1⟩
  | y :: xs, _, i + 1, x, ⟨v, r, e, h1, h2⟩, e2 => by
    obtain ⟨u, h3, h4⟩ := RVs.get (i := i) h2 (by simpa using e2)
    exact ⟨u, by rw [e]; simpa using h3, h4⟩
theorem RVs.getV : ∀ {xs : List MV} {vs : List V} {i : Nat} {v : V}, RVs K ρ H xs vs → vs[i]? = some v → ∃ x, xs[i]? = some x ∧ RV K ρ H x v
  | [], _, _, _, h, e => by rw [show _ = [] from h] at e; simp at e
  | y :: xs, _, 0, v, ⟨u, r, e, h1, h2⟩, e2 => by
    rw [e] at e2
    simp at e2
    subst e2
    exact ⟨y, rfl, h1⟩
  | y :: xs, _, i + 1, v, ⟨u, r, e, h1, h2⟩, e2 => by
    rw [e] at e2
    obtain ⟨x, h3, h4⟩ := RVs.getV (i := i) h2 (by simpa using e2)
    exact ⟨x, by simpa using h3, h4⟩
theorem RVs.none_of {xs : List MV} {vs : List V} {i : Nat} (h : RVs K ρ H xs vs) (e : xs[i]? = none) : vs[i]? = none := by
  have := h.length
  have h2 := List.getElem?_eq_none_iff.mp e
  exact List.getElem?_eq_none_iff.mpr (by omega)
theorem RVs.append : ∀ {xs ys : List MV} {vs ws : List V}, RVs K ρ H xs vs → RVs K ρ H ys ws → RVs K ρ H (xs ++ ys) (vs ++ ws)
  | [], _, _, _, h, h' => by rw [show _ = [] from h]; exact h'
  | x :: xs, _, _, _, ⟨v, r, e, h1, h2⟩, h' => ⟨v, r ++ _, by rw [e]; rfl, h1, RVs.append h2 h'⟩
theorem RVs.one {x : MV} {v : V} (h : RV K ρ H x v) : RVs K ρ H [x] [v] := ⟨v, [], rfl, h, rfl⟩
theorem RVs.set : ∀ {xs : List MV} {vs : List V} {x : MV} {v : V} (i : Nat), RVs K ρ H xs vs → RV K ρ H x v → RVs K ρ H (xs.set i x) (vs.set i v)
  | [], _, _, _, _, h, _ => by rw [show _ = [] from h]; rfl
  | y :: xs, _, x, v, 0, ⟨u, r, e, h1, h2⟩, h => ⟨v, r, by rw [e]; rfl, h, h2⟩
  | y :: xs, _, x, v, i + 1, ⟨u, r, e, h1, h2⟩, h => ⟨u, r.set i v, by rw [e]; rfl, h1, RVs.set i h2 h⟩
theorem RVs.take : ∀ {xs : List MV} {vs : List V} (n : Nat), RVs K ρ H xs vs → RVs K ρ H (xs.take n) (vs.take n)
  | _, _, 0, _ => rfl
  | [], _, _ + 1, h => by rw [show _ = [] from h]; rfl
  | y :: xs, _, n + 1, ⟨u, r, e, h1, h2⟩ => ⟨u, r.take n, by rw [e]; rfl, h1, RVs.take n h2⟩
theorem RVs.drop : ∀ {xs : List MV} {vs : List V} (n : Nat), RVs K ρ H xs vs → RVs K ρ H (xs.drop n) (vs.drop n)
  | _, _, 0, h => h
  | [], _, _ + 1, h => by rw [show _ = [] from h]; rfl
  | y :: xs, _, n + 1, ⟨u, r, e, h1, h2⟩ => by rw [e]; exact RVs.drop n h2
theorem RVs.dropLast {xs : List MV} {vs : List V} (h : RVs K ρ H xs vs) : RVs K ρ H xs.dropLast vs.dropLast := by
  rw [List.dropLast_eq_take, List.dropLast_eq_take, ← h.length]
  exact h.take _
theorem RVs.rep : ∀ {xs : List MV} {vs : List V} (k : Nat), RVs K ρ H xs vs → RVs K ρ H (List.replicate k xs).flatten (List.replicate k vs).flatten
  | _, _, 0, _ => rfl
  | _, _, k + 1, h => by
    rw [List.replicate_succ, List.replicate_succ, List.flatten_cons, List.flatten_cons]
    exact h.append (RVs.rep k h)
theorem RVs.reverse : ∀ {xs : List MV} {vs : List V}, RVs K ρ H xs vs → RVs K ρ H xs.reverse vs.reverse
  | [], _, h => by rw [show _ = [] from h]; rfl
  | x :: xs, _, ⟨v, r, e, h1, h2⟩ => by
    rw [e, List.reverse_cons, List.reverse_cons]
    exact h2.reverse.append (RVs.one h1)
theorem RVs.map {α : Type} {f : α → MV} {g : α → V} (h : ∀ a, RV K ρ H (f a) (g a)) : ∀ l : List α, RVs K ρ H (l.map f) (l.map g)
  | [] => rfl
  | a :: r => ⟨_, _, rfl, h a, RVs.map h r⟩
/-- the object of a list, read -/
theorem RH.lst (R : RH U ρ H s) {n : Nat} {xs : List MV} {a : Addr} (h : s[n]? = some (.lst xs)) (ha : ρ[n]? = some a) : ∃ vs, H a = some (.lst vs) ∧ RVs U.K ρ H xs vs := by
  obtain ⟨b, hb, r⟩ := R.at_ n _ h
  rw [ha] at hb
  cases hb
  exact r
theorem RO.there {o : MO} {a : Addr} (h : RO U ρ H o a) : ∃ ob, H a = some ob := by
  cases o with
  | lst xs => obtain ⟨vs, e, _⟩ := h; exact ⟨_, e⟩
  | dlf kvs => obtain ⟨ws, e, _⟩ := h; exact ⟨_, e⟩
  | fdl kvs => obtain ⟨ob, ws, e, _⟩ := h; exact ⟨_, e⟩
  | dtp kvs => obtain ⟨xs, ws, e, _⟩ := h; exact ⟨_, e⟩
  | ins c fs => obtain ⟨dx, ws, e, _⟩ := h; exact ⟨_, e⟩
theorem RO.mono {o : MO} {a : Addr} (m : Mo ρ H ρ' H') (e : H' a = H a) (h : RO U ρ H o a) : RO U ρ' H' o a := by
  cases o with
  | lst xs => obtain ⟨vs, h1, h2⟩ := h; exact ⟨vs, e.trans h1, h2.mono m⟩
  | dlf kvs => obtain ⟨ws, h1, h2, h3, h4⟩ := h; exact ⟨ws, e.trans h1, h2, h3, h4.mono m⟩
  | fdl kvs => obtain ⟨ob, ws, h1, h2, h3, h4⟩ := h; exact ⟨ob, ws, e.trans h1, h2, h3, h4.mono m⟩
  | dtp kvs => obtain ⟨xs, ws, h1, h2, h3, h4, h5, h6⟩ := h; exact ⟨xs, ws, e.trans h1, h2, h3, h4, h5.mono m, fun x hx => ⟨(h6 x hx).1, (h6 x hx).2.mono m⟩⟩
  | ins c fs => obtain ⟨dx, ws, h1, h2, h3, h4⟩ := h; exact ⟨dx, ws, e.trans h1, h2, h3.mono m, h4⟩
theorem RH.there (R : RH U ρ H s) {a : Addr} (h : a ∈ ρ) : ∃ o, H a = some o := by
  obtain ⟨n, hn⟩ := List.mem_iff_getElem?.mp h
  have hl : n < s.length := by rw [← R.len]; exact (List.getElem?_eq_some_iff.mp hn).1
  obtain ⟨b, hb, r⟩ := R.at_ n _ (List.getElem?_eq_getElem hl)
  rw [hn] at hb
  cases hb
  exact r.there
theorem RH.fresh (R : RH U ρ H s) {p : Addr} (h : H p = none) : p ∉ ρ := fun hm => by
  obtain ⟨o, e⟩ := R.there hm
  rw [h] at e
  cases e
/-- a new thing that no location stands for -/
theorem Mo.aside {p : Addr} {o : HO} (h : H p = none) : Mo ρ H ρ (upd H p o) :=
  ⟨List.prefix_refl _, fun a vs e => by rw [upd_ne (ne_of_none e h)]; exact e, fun a ob u e => by rw [upd_ne (ne_of_none e h)]; exact e⟩
theorem RH.aside (R : RH U ρ H s) {p : Addr} {o : HO} (h : H p = none) : RH U ρ (upd H p o) s :=
  ⟨R.len, R.nd, fun n ob e => by
    obtain ⟨a, ha, r⟩ := R.at_ n ob e
    exact ⟨a, ha, r.mono (Mo.aside h) (upd_ne fun z => R.fresh h (z ▸ List.mem_of_getElem? ha))⟩⟩
/-- a new location -/
theorem Mo.new {p : Addr} {o : HO} (h : H p = none) : Mo ρ H (ρ ++ [p]) (upd H p o) :=
  ⟨List.prefix_append _ _, (Mo.aside (ρ := ρ) h).tups, (Mo.aside (ρ := ρ) h).frzs⟩
theorem RH.new (R : RH U ρ H s) {p : Addr} {o : HO} {mo : MO} (h : H p = none) (r : RO U (ρ ++ [p]) (upd H p o) mo p) : RH U (ρ ++ [p]) (upd H p o) (s ++ [mo]) := by
  refine ⟨by simp [R.len], ?_, fun n ob e => ?_⟩
  · rw [List.nodup_append]
    exact ⟨R.nd, by simp, fun a ha b hb => by
      simp at hb
      subst hb
      exact fun z => R.fresh h (z ▸ ha)⟩
  · by_cases hn : n < s.length
    · rw [List.getElem?_append_left hn] at e
      obtain ⟨a, ha, r'⟩ := R.at_ n ob e
      exact ⟨a, (Mo.new (o := o) h).at_ ha, r'.mono (Mo.new h) (upd_ne fun z => R.fresh h (z ▸ List.mem_of_getElem? ha))⟩
    · have e2 : n = s.length := by
        have := (List.getElem?_eq_some_iff.mp e).1
        simp at this
        omega
      subst e2
      rw [List.getElem?_append_right (Nat.le_refl _)] at e
      simp at e
      subst e
      refine ⟨p, ?_, r⟩
      rw [← R.len, List.getElem?_append_right (Nat.le_refl _)]
      simp
theorem loc_new (R : RH U ρ H s) {p : Addr} : (ρ ++ [p])[s.length]? = some p := by
  rw [← R.len, List.getElem?_append_right (Nat.le_refl _)]
  simp
/-- an object is changed -/
theorem Mo.write {a : Addr} {o : HO} (m : Mut (H a)) : Mo ρ H ρ (upd H a o) :=
  ⟨List.prefix_refl _, fun b vs e => by
    rw [upd_ne fun z => by subst z; rw [e] at m; exact m]
    exact e, fun b ob u e => by
    rw [upd_ne fun z => by subst z; rw [e] at m; exact m]
    exact e⟩
theorem RH.write (R : RH U ρ H s) {n : Nat} {a : Addr} {o : HO} {mo : MO} (ha : ρ[n]? = some a) (hn : n < s.length) (m : Mut (H a)) (r : RO U ρ (upd H a o) mo a) : RH U ρ (upd H a o) (s.set n mo) := by
  refine ⟨by simp [R.len], R.nd, fun k ob e => ?_⟩
  by_cases hk : k = n
  · subst hk
    rw [List.getElem?_set_self hn] at e
    cases e
    exact ⟨a, ha, r⟩
  · rw [List.getElem?_set_ne (Ne.symm hk)] at e
    obtain ⟨b, hb, r'⟩ := R.at_ k ob e
    refine ⟨b, hb, r'.mono (Mo.write m) (upd_ne fun z => hk ?_)⟩
    subst z
    exact nodup_ix' R.nd hb ha
where
  nodup_ix' {l : List Addr} (hN : l.Nodup) {i j : Nat} {x : Addr} (a : l[i]? = some x) (b : l[j]? = some x) : i = j := by
    obtain ⟨h1, e1⟩ := List.getElem?_eq_some_iff.mp a
    obtain ⟨h2, e2⟩ := List.getElem?_eq_some_iff.mp b
    exact (List.getElem_inj hN).mp (e1.trans e2.symm)
end
/-! ### what a reading becomes -/
/-- an exception as the hand layer tells it -/
def RX (K : PySem.W.Frag) (ρ : List Addr) (H : Hp) (x : MX) (cls : Value) (d : Option Addr) : Prop :=
  cls = .ref (clA K x.c) ∧ ((x.fs = [] ∧ d = none) ∨ ∃ dx ws, d = some dx ∧ H dx = some (.xd ws) ∧ ws.map (·.1) = x.fs.map (fun p => nmOf p.1) ∧ RVs K ρ H (x.fs.map (·.2)) (ws.map (·.2)))
/-- Q0 at the store brings Q at the heap -/
def CV (U : Wd) (ρ : List Addr) (H : Hp) (Q0 : QV) (Q : VK) : Prop := ∀ v s' ρ' H' x, Q0 v s' → Mo ρ H ρ' H' → RH U ρ' H' s' → RV U.K ρ' H' v x → Q x H'
def CVs (U : Wd) (ρ : List Addr) (H : Hp) (Q0 : List MV → MS → Prop) (Q : List V → Hp → Prop) : Prop := ∀ v s' ρ' H' x, Q0 v s' → Mo ρ H ρ' H' → RH U ρ' H' s' → RVs U.K ρ' H' v x → Q x H'
def CXx (U : Wd) (ρ : List Addr) (H : Hp) (R0 : QX) (E : XK) : Prop := ∀ x s' ρ' H' c d, R0 x s' → Mo ρ H ρ' H' → RH U ρ' H' s' → RX U.K ρ' H' x c d → E c d H'
theorem CV.mono {U : Wd} {ρ ρ' : List Addr} {H H' : Hp} {Q0 : QV} {Q : VK} (m : Mo ρ H ρ' H') (h : CV U ρ H Q0 Q) : CV U ρ' H' Q0 Q := fun v s' ρ2 H2 x q m2 R r => h v s' ρ2 H2 x q (m.trans m2) R r
theorem CXx.mono {U : Wd} {ρ ρ' : List Addr} {H H' : Hp} {Q0 : QX} {Q : XK} (m : Mo ρ H ρ' H') (h : CXx U ρ H Q0 Q) : CXx U ρ' H' Q0 Q := fun v s' ρ2 H2 x d q m2 R r => h v s' ρ2 H2 x d q (m.trans m2) R r
/-- a promise -/
def lift (U : Wd) (sp : MSp) : Sp := fun vs H Q E => ∃ ρ args s Q0 R0, RH U ρ H s ∧ RVs U.K ρ H args vs ∧ sp args s Q0 R0 ∧ CV U ρ H Q0 Q ∧ CXx U ρ H R0 E
/-- an expression -/
def LE (U : Wd) (Γ : Prg) (W : WX) (e : E) : TE := fun σ H Q => ∃ ρ env s Q0 R0, RH U ρ H s ∧ RE U.K ρ H env σ ∧ wpE Γ e env s Q0 R0 ∧ CV U ρ H Q0 Q ∧ CXx U ρ H R0 (fun c d H' => W c d σ H')
def LEs (U : Wd) (Γ : Prg) (W : WX) (es : Es) : TA := fun σ H Q => ∃ ρ env s Q0 R0, RH U ρ H s ∧ RE U.K ρ H env σ ∧ wpEs Γ es env s Q0 R0 ∧ CVs U ρ H Q0 Q ∧ CXx U ρ H R0 (fun c d H' => W c d σ H')
end Ly
/-! Lay, part C: the look that holds the small language against the text. -/
namespace Ly
open PySem L2

def visB (sc : Scope) (x : Str) : Bool := (match sc.names.lookup x with
  | some .local => true
  | some .cell => true
  | some .free => true
  | _ => false) && !(x == ("__debug__" : Str)) && !(x == ("__classdict__" : Str))
def locB (sc : Scope) (x : Str) : Bool := match sc.names.lookup x with
  | some .local => true
  | some .cell => true
  | _ => false
def gloB (sc : Scope) (x : Str) : Bool := (match sc.names.lookup x with
  | some .globalImplicit => true
  | _ => false) && !(x == ("__debug__" : Str)) && !(x == ("__name__" : Str))
/-- no star, no set's display, no slice -/
def nost : Expr → Bool
  | .Starred .. => false
  | .Set .. => false
  | .Slice .. => false
  | _ => true
def noLc : Expr → Bool
  | .ListComp .. => false
  | .SetComp .. => false
  | .DictComp .. => false
  | _ => true
/-- no call without arguments (super) -/
def nc0 : Expr → Bool
  | .Call _ [] _ _ => false
  | _ => true
def noTup : Expr → Bool
  | .Tuple .. => false
  | _ => true
def isNm (x : Str) (n : String) : Bool := x == Str.ofString n
def bopB : BOp → Operator → Bool
  | .add, .Add => true
  | .sub, .Sub => true
  | .mul, .Mult => true
  | .div, .FloorDiv => true
  | .mod, .Mod => true
  | .pow, .Pow => true
  | .shl, .LShift => true
  | .shr, .RShift => true
  | .band, .BitAnd => true
  | .bor, .BitOr => true
  | _, _ => false
def copB : COp → CmpOp → Bool
  | .eq, .Eq => true
  | .ne, .NotEq => true
  | .lt, .Lt => true
  | .le, .LtE => true
  | .gt, .Gt => true
  | .ge, .GtE => true
  | .isin, .In => true
  | .notin, .NotIn => true
  | .isn, .Is => true
  | .notn, .IsNot => true
  | _, _ => false
def bfN : BF → String
  | .len => "len" | .min2 => "min" | .max2 => "max" | .min1 => "min" | .sum => "sum" | .all => "all" | .abs => "abs" | .int => "int" | .str => "str" | .list => "list" | .tuple => "tuple" | .sorted => "sorted" | .divmod => "divmod"
  | .lrange => "" | .tuprev => "" | .sortset => "" | .lenset => ""
def bmN : BM → String
  | .append => "append" | .extend => "extend" | .pop => "pop" | .popAt => "pop" | .clear => "clear" | .index => "index" | .get => "get" | .setdefault => "setdefault" | .join => "join" | .split => "split" | .startswith => "startswith" | .partition => "partition" | .isdigit => "isdigit" | .lkeys => ""
def bmOk : BM → Bool
  | .append | .extend | .pop | .popAt | .clear | .index | .get | .setdefault | .join | .split | .startswith | .partition => true
  | _ => false
def ikN : IK → String
  | .kint => "int" | .kbool => "bool" | .kstr => "str" | .klist => "list" | .ktuple => "tuple" | .kown _ => ""
mutual
def chkTg (N : List Str) (ok : Str → Bool) : Tg → Expr → Bool
  | .nm i, e => (match e with
    | .Name x _ => decide (N[i]? = some x) && ok x
    | _ => false)
  | .tp ts, e => (match e with
    | .Tuple es _ _ => chkTgs N ok ts es
    | _ => false)
def chkTgs (N : List Str) (ok : Str → Bool) : Tgs → List Expr → Bool
  | .nil, es => (match es with
    | [] => true
    | _ => false)
  | .cons t r, es => (match es with
    | e :: us => nost e && chkTg N ok t e && chkTgs N ok r us
    | [] => false)
end
mutual
def tgIn (vs : List Nat) : Tg → Bool
  | .nm i => vs.contains i
  | .tp ts => tgsIn vs ts
def tgsIn (vs : List Nat) : Tgs → Bool
  | .nil => true
  | .cons t r => tgIn vs t && tgsIn vs r
end
def ownOf (N : List Str) (vs : List Nat) : List (Str × Nat) := vs.map fun i => (N.getD i "", i)
/-- a dict's display, key by key -/
def ilv : List (Option Expr) → List Expr → Option (List Expr)
  | [], [] => some []
  | some k :: ks, v :: vs => (match ilv ks vs with
    | some r => some (k :: v :: r)
    | none => none)
  | _, _ => none
def noDk : E → Bool
  | .lc _ _ (.dk _) _ _ => false
  | _ => true
def enmOk : It → Expr → Bool
  | .enm _, t => !(noTup t)
  | _, _ => true
mutual
def chkE (N : List Str) (FL : List Nat) : E → Scope → Expr → Bool
  | .var i, sc, e => (match e with
    | .Name x _ => decide (N[i]? = some x) && visB sc x
    | _ => false)
  | .non, _, e => (match e with
    | .Constant .none _ _ => true
    | _ => false)
  | .bl b, _, e => (match e with
    | .Constant (.bool c) _ _ => b == c
    | _ => false)
  | .int i, _, e => (match e with
    | .Constant (.int c) _ _ => decide (i = c)
    | _ => false)
  | .str x, _, e => (match e with
    | .Constant (.str c) _ _ => decide (x = c)
    | _ => false)
  | .glo i x, sc, e => (match e with
    | .Name y _ => decide (y = nmOf i) && gloB sc y && decide ((i, x) ∈ constT)
    | _ => false)
  | .tup es, sc, e => (match e with
    | .Tuple xs _ _ => chkEs N FL es sc xs
    | _ => false)
  | .lst es, sc, e => (match e with
    | .List xs _ => chkEs N FL es sc xs
    | _ => false)
  | .dnew _, _, e => (match e with
    | .Dict [] [] _ => true
    | _ => false)
  | .ddisp kvs, sc, e => (match e with
    | .Dict ks vs _ => (match ilv ks vs with
      | some xs => !ks.isEmpty && decide (ks.length ≤ 15) && chkEs N FL kvs sc xs
      | none => false)
    | _ => false)
  | .bin o a b, sc, e => (match e with
    | .BinOp x p y _ => bopB o p && chkE N FL a sc x && chkE N FL b sc y
    | _ => false)
  | .neg a, sc, e => (match e with
    | .UnaryOp .USub x _ => chkE N FL a sc x
    | _ => false)
  | .cmp o a b, sc, e => (match e with
    | .Compare x [p] [y] _ => copB o p && nost y && chkE N FL a sc x && chkE N FL b sc y
    | _ => false)
  | .chn o p a b c, sc, e => (match e with
    | .Compare x [q, r] [y, z] _ => copB o q && copB p r && nost y && nost z && chkE N FL a sc x && chkE N FL b sc y && chkE N FL c sc z
    | _ => false)
  | .and_ a b, sc, e => (match e with
    | .BoolOp .And (x :: y :: []) _ => chkE N FL a sc x && chkE N FL b sc y
    | .BoolOp .And (x :: y :: z :: r) p => chkE N FL a sc x && chkE N FL b sc (.BoolOp .And (y :: z :: r) p)
    | _ => false)
  | .or_ a b, sc, e => (match e with
    | .BoolOp .Or (x :: y :: []) _ => chkE N FL a sc x && chkE N FL b sc y
    | .BoolOp .Or (x :: y :: z :: r) p => chkE N FL a sc x && chkE N FL b sc (.BoolOp .Or (y :: z :: r) p)
    | _ => false)
  | .not_ a, sc, e => (match e with
    | .UnaryOp .Not x _ => chkE N FL a sc x
    | _ => false)
  | .ite t a b, sc, e => (match e with
    | .IfExp x y z _ => chkE N FL t sc x && chkE N FL a sc y && chkE N FL b sc z
    | _ => false)
  | .fld a f, sc, e => (match e with
    | .Attribute x y _ => decide (y = nmOf f) && FL.contains f && nc0 x && chkE N FL a sc x
    | _ => false)
  | .ix a b, sc, e => (match e with
    | .Subscript x y _ => nost y && chkE N FL a sc x && chkE N FL b sc y
    | _ => false)
  | .sl a lo hi, sc, e => (match e with
    | .Subscript x (.Slice l h none _) _ => chkE N FL a sc x && chkO N FL lo sc l && chkO N FL hi sc h
    | _ => false)
  | .call f es, sc, e => (match e with
    | .Call (.Name x _) xs [] _ => decide (x = nmOf f) && gloB sc x && !xs.isEmpty && chkEs N FL es sc xs
    | _ => false)
  | .make c es, sc, e => (match e with
    | .Call (.Name x _) xs [] _ => decide (x = nmOf c) && gloB sc x && chkEs N FL es sc xs
    | _ => false)
  | .meth a m es, sc, e => (match e with
    | .Call (.Attribute x y p) xs [] q => decide (y = nmOf m) && (p.endLine == q.line) && decide (xs.length < 20) && nc0 x && (FL.all fun f => !decide (nmOf f = nmOf m)) && chkE N FL a sc x && chkEs N FL es sc xs
    | _ => false)
  | .sup c m es, sc, e => (match e with
    | .Call (.Attribute (.Name x _) y p) xs [] q => (p.endLine == q.line) && decide (xs.length < 20) && decide (x = nmOf c) && gloB sc x && decide (y = nmOf m) && decide (c ≠ 0) && chkEs N FL es sc xs
    | _ => false)
  | .bf f es, sc, e => (match f with
    | .lrange => (match e with
      | .Call (.Name x _) [.Call (.Name y _) xs [] _] [] _ => isNm x "list" && gloB sc x && isNm y "range" && gloB sc y && decide (xs.length = 1) && chkEs N FL es sc xs
      | _ => false)
    | .tuprev => (match e with
      | .Call (.Name x _) [.Call (.Name y _) xs [] _] [] _ => isNm x "tuple" && gloB sc x && isNm y "reversed" && gloB sc y && decide (xs.length = 1) && chkEs N FL es sc xs
      | _ => false)
    | .sortset => (match e with
      | .Call (.Name x _) [.Call (.Name y _) xs [] _] [] _ => isNm x "sorted" && gloB sc x && isNm y "set" && gloB sc y && decide (xs.length = 1) && chkEs N FL es sc xs
      | _ => false)
    | .lenset => false
    | .sorted => false
    | _ => (match e with
      | .Call (.Name x _) xs [] _ => isNm x (bfN f) && gloB sc x && !xs.isEmpty && chkEs N FL es sc xs
      | _ => false))
  | .bm m a es, sc, e => (match m with
    | .lkeys => false
    | _ => (match e with
      | .Call (.Attribute z y p) xs [] q => bmOk m && isNm y (bmN m) && (p.endLine == q.line) && decide (xs.length < 20) && nc0 z && chkE N FL a sc z && chkEs N FL es sc xs
      | _ => false))
  | .lc elt tg it tst vs, sc, e => (match e with
    | .ListComp y [⟨t, i, ifs, 0⟩] scope _ => nost i && enmOk it t && chkI N FL it sc i && blkC N sc scope (ownOf N vs) && chkTg N (fun x => locB scope x) tg t && tgIn vs tg && chkT N FL tst (relS scope sc) ifs && chkE N FL elt (relS scope sc) y
    | _ => false)
  | .isi a k, sc, e => (match e with
    | .Call (.Name x _) [y, .Name z _] [] _ => (match k with
      | .kown _ => false
      | _ => true) && isNm x "isinstance" && gloB sc x && nost y && chkE N FL a sc y && isNm z (ikN k) && gloB sc z
    | _ => false)
  | .fst ps, sc, e => (match e with
    | .JoinedStr xs _ => decide (2 ≤ xs.length) && chkF N FL ps sc xs
    | _ => false)
def chkEs (N : List Str) (FL : List Nat) : Es → Scope → List Expr → Bool
  | .nil, _, xs => (match xs with
    | [] => true
    | _ => false)
  | .cons e r, sc, xs => (match xs with
    | x :: us => nost x && chkE N FL e sc x && chkEs N FL r sc us
    | [] => false)
def chkF (N : List Str) (FL : List Nat) : Es → Scope → List Expr → Bool
  | .nil, _, xs => (match xs with
    | [] => true
    | _ => false)
  | .cons e r, sc, xs => (match xs with
    | .FormattedValue y (-1) none _ :: us => chkE N FL e sc y && chkF N FL r sc us
    | .Constant (.str c) _ _ :: us => (match e with
      | .str d => decide (d = c)
      | _ => false) && chkF N FL r sc us
    | _ => false)
def chkO (N : List Str) (FL : List Nat) : Eo → Scope → Option Expr → Bool
  | .no, _, x => (match x with
    | none => true
    | _ => false)
  | .so e, sc, x => (match x with
    | some y => nost y && chkE N FL e sc y
    | none => false)
def chkT (N : List Str) (FL : List Nat) : Eo → Scope → List Expr → Bool
  | .no, _, x => (match x with
    | [] => true
    | _ => false)
  | .so e, sc, x => (match x with
    | [y] => chkE N FL e sc y
    | _ => false)
def chkI (N : List Str) (FL : List Nat) : It → Scope → Expr → Bool
  | .seq e, sc, x => chkE N FL e sc x
  | .rng es, sc, e => (match e with
    | .Call (.Name x _) xs [] _ => isNm x "range" && gloB sc x && (decide (xs.length = 1) || decide (xs.length = 2)) && chkEs N FL es sc xs
    | _ => false)
  | .enm a, sc, e => (match e with
    | .Call (.Name x _) [y] [] _ => isNm x "enumerate" && gloB sc x && nost y && chkE N FL a sc y
    | _ => false)
  | .dk e, sc, x => chkE N FL e sc x
end
mutual
def chkS (N : List Str) (FL : List Nat) : S → Scope → Stmt → Bool
  | .ex e, sc, st => (match st with
    | .Expr x _ => noLc x && nost x && chkE N FL e sc x
    | _ => false)
  | .asg t e, sc, st => (match st with
    | .Assign [tg] x pos => chkTg N (locB sc) t tg && chkE N FL e sc x && (match tg with
      | .Name y py => noLc x || (match x with
        | .ListComp _ _ scope lp => noDk e && (match sc.names.lookup y with
          | some .local => true
          | _ => false) && (py.line == lp.line) && !(scope.names.any fun (n, k) => n == y && (k == .local || k == .cell))
        | _ => false)
      | .Tuple _ _ _ => noTup x && noLc x
      | _ => false)
    | _ => false)
  | .setf o f e, sc, st => (match st with
    | .Assign [.Attribute x y _] v _ => decide (y = nmOf f) && FL.contains f && chkE N FL o sc x && chkE N FL e sc v
    | _ => false)
  | .seti o i e, sc, st => (match st with
    | .Assign [.Subscript x y _] v _ => noLc v && nost x && nost y && chkE N FL o sc x && chkE N FL i sc y && chkE N FL e sc v
    | _ => false)
  | .aug i e, sc, st => (match st with
    | .AugAssign (.Name x _) .Add v _ => decide (N[i]? = some x) && locB sc x && chkE N FL e sc v
    | _ => false)
  | .ife t a b, sc, st => (match st with
    | .If x y z _ => chkE N FL t sc x && chkSs N FL a sc y && chkSs N FL b sc z
    | _ => false)
  | .whl t b, sc, st => (match st with
    | .While x y [] _ => chkE N FL t sc x && chkSs N FL b sc y
    | _ => false)
  | .fr tg it b, sc, st => (match st with
    | .For t i y [] _ => nost i && enmOk it t && chkTg N (locB sc) tg t && chkI N FL it sc i && chkSs N FL b sc y
    | _ => false)
  | .ret e, sc, st => (match st with
    | .Return (some x) _ => chkE N FL e sc x
    | _ => false)
  | .retn, _, st => (match st with
    | .Return none _ => true
    | _ => false)
  | .brk, _, st => (match st with
    | .Break _ => true
    | _ => false)
  | .cnt, _, st => (match st with
    | .Continue _ => true
    | _ => false)
  | .pas, _, st => (match st with
    | .Pass _ => true
    | _ => false)
  | .rse _ _, _, _ => false
  | .rne, _, _ => true
  | .trn b, sc, st => (match st with
    | .Try y (_ :: _) [] [] _ => chkSs N FL b sc y
    | _ => false)
def chkSs (N : List Str) (FL : List Nat) : Ss → Scope → List Stmt → Bool
  | .nil, _, xs => (match xs with
    | [] => true
    | _ => false)
  | .cons e r, sc, xs => (match xs with
    | x :: us => chkS N FL e sc x && chkSs N FL r sc us
    | [] => false)
end
end Ly
/-! Lay, part D: operators, subscripts, built-in functions and methods by values. -/
namespace Ly
open PySem L2

section
variable {U : Wd} {X : Cx}
/-- two values of the store -/
def L2v (U : Wd) (f : MV → MV → MS → QV → Prop) : R2 := fun x y H Q => ∃ ρ s a b Q0, RH U ρ H s ∧ RV U.K ρ H a x ∧ RV U.K ρ H b y ∧ f a b s Q0 ∧ CV U ρ H Q0 Q
variable {ρ : List Addr} {H : Hp} {s : MS}
/-- the answer stands in the same heap -/
theorem CV.same {Q0 : QV} {Q : VK} {v : MV} {x : V} (c : CV U ρ H Q0 Q) (R : RH U ρ H s) (q : Q0 v s) (r : RV U.K ρ H v x) : Q x H := c v s ρ H x q Mo.refl R r
/-- the answer is a new list -/
theorem CV.newL {Q0 : QV} {Q : VK} {xs : List MV} {vs : List V} {p : Addr} (c : CV U ρ H Q0 Q) (R : RH U ρ H s) (q : Q0 (.loc s.length) (s ++ [.lst xs])) (h : H p = none) (r : RVs U.K ρ H xs vs) : Q (.ref p) (upd H p (.lst vs)) :=
  c _ _ (ρ ++ [p]) _ _ q (Mo.new h) (R.new h ⟨vs, upd_same, r.mono (Mo.new h)⟩) ⟨p, loc_new R, rfl⟩
/-- the answer is a new tuple -/
theorem CV.newT {Q0 : QV} {Q : VK} {xs : List MV} {vs : List V} {p : Addr} (c : CV U ρ H Q0 Q) (R : RH U ρ H s) (q : Q0 (.tup xs) s) (h : H p = none) (r : RVs U.K ρ H xs vs) : Q (.ref p) (upd H p (.tup vs)) :=
  c _ _ ρ _ _ q (Mo.aside h) (R.aside h) ⟨p, vs, rfl, upd_same, r.mono (Mo.aside (ρ := ρ) h)⟩
/-- a list is changed -/
theorem RH.setL (R : RH U ρ H s) {n : Nat} {a : Addr} {xs ys : List MV} {ws : List V} (hs : s[n]? = some (.lst xs)) (ha : ρ[n]? = some a) (r : RVs U.K ρ H ys ws) :
    RH U ρ (upd H a (.lst ws)) (s.set n (.lst ys)) ∧ Mo ρ H ρ (upd H a (.lst ws)) := by
  obtain ⟨vs, e, _⟩ := R.lst hs ha
  have m : Mut (H a) := by rw [e]; trivial
  exact ⟨R.write ha (List.getElem?_eq_some_iff.mp hs).1 m ⟨ws, upd_same, r.mono (Mo.write m)⟩, Mo.write m⟩
theorem RV.locE {n : Nat} {x : V} (h : RV U.K ρ H (.loc n) x) : ∃ a, ρ[n]? = some a ∧ x = .ref a := h

/-! ### a op b -/
theorem op_bin {o : BOp} {p : Operator} (hb : bopB o p = true) : OpR X (binaryOp p) (L2v U (binW o)) := by
  intro pins sh σ H x y v u Q I rx ry ⟨ρ, s, a, b, Q0, R, ra, rb, h, c⟩
  have hi : ∀ i j : Int, a = .int i → b = .int j → x = .int i ∧ y = .int j := fun i j e1 e2 => by subst e1; subst e2; exact ⟨ra, rb⟩
  cases o <;> cases p <;> first | exact absurd hb (by decide) | skip
  · cases a <;> cases b <;> first | exact False.elim h | skip
    · obtain ⟨rfl, rfl⟩ := hi _ _ rfl rfl
      exact op_add pins sh σ H _ _ v u Q I rx ry ⟨_, _, rfl, rfl, c.same R h rfl⟩
    · obtain rfl : x = _ := ra
      obtain rfl : y = _ := rb
      exact op_add_str pins sh σ H _ _ v u Q I rx ry ⟨_, _, rfl, rfl, h.1, c.same R h.2 rfl⟩
    · rename_i xs ys
      obtain ⟨p1, vs, rfl, h1, r1⟩ := ra
      obtain ⟨p2, ws, rfl, h2, r2⟩ := rb
      obtain ⟨h3, h4, h5⟩ := h
      refine op_catT pins sh σ H _ _ v u Q I rx ry ⟨p1, p2, vs, ws, rfl, rfl, SqT.of h1, SqT.of h2, fun z => h3 ?_, by rw [← r1.length, ← r2.length]; exact h4, fun z => ?_, fun _ p hp => c.newT R h5 hp (r1.append r2)⟩
      · subst z
        have := r1.length
        simpa using this
      · have e : ys = [] := by
          subst z
          have := r2.length
          simpa using this
        subst e
        rw [List.append_nil] at h5
        exact c.same R h5 ⟨p1, vs, rfl, h1, r1⟩
    · rename_i n m
      obtain ⟨p1, h1, rfl⟩ := ra
      obtain ⟨p2, h2, rfl⟩ := rb
      have h : (match s[n]?, s[m]? with
        | some (.lst xs), some (.lst ys) => xs.length + ys.length ≤ sizeLine ∧ Q0 (.loc s.length) (s ++ [.lst (xs ++ ys)])
        | _, _ => False) := h
      split at h
      · rename_i xs ys e1 e2
        obtain ⟨vs, g1, r1⟩ := R.lst e1 h1
        obtain ⟨ws, g2, r2⟩ := R.lst e2 h2
        exact op_cat pins sh σ H _ _ v u Q I rx ry ⟨p1, p2, vs, ws, rfl, rfl, g1, g2, by rw [← r1.length, ← r2.length]; exact h.1, fun p hp => c.newL R h.2 hp (r1.append r2)⟩
      · exact False.elim h
  · cases a <;> cases b <;> first | exact False.elim h | skip
    obtain ⟨rfl, rfl⟩ := hi _ _ rfl rfl
    exact op_sub pins sh σ H _ _ v u Q I rx ry ⟨_, _, rfl, rfl, c.same R h rfl⟩
  · cases a <;> cases b <;> first | exact False.elim h | skip
    · obtain ⟨rfl, rfl⟩ := hi _ _ rfl rfl
      exact op_mul pins sh σ H _ _ v u Q I rx ry ⟨_, _, rfl, rfl, h.1, c.same R h.2 rfl⟩
    · rename_i n k
      obtain ⟨p1, h1, rfl⟩ := ra
      obtain rfl : y = _ := rb
      have h : (match s[n]? with
        | some (.lst xs) => (-(2 ^ 63) ≤ k ∧ k < 2 ^ 63) ∧ xs.length * k.toNat ≤ sizeLine ∧ Q0 (.loc s.length) (s ++ [.lst (List.replicate k.toNat xs).flatten])
        | _ => False) := h
      split at h
      · rename_i xs e1
        obtain ⟨vs, g1, r1⟩ := R.lst e1 h1
        exact op_rep pins sh σ H _ _ v u Q I rx ry ⟨p1, k, vs, rfl, rfl, g1, h.1.1, h.1.2, by rw [← r1.length]; exact h.2.1, fun p hp => c.newL R h.2.2 hp (r1.rep _)⟩
      · exact False.elim h
  · cases a <;> cases b <;> first | exact False.elim h | skip
    obtain ⟨rfl, rfl⟩ := hi _ _ rfl rfl
    exact op_fdivN pins sh σ H _ _ v u Q I rx ry ⟨_, _, rfl, rfl, h.1, c.same R h.2 rfl⟩
  · cases a <;> cases b <;> first | exact False.elim h | skip
    obtain ⟨rfl, rfl⟩ := hi _ _ rfl rfl
    exact op_modN pins sh σ H _ _ v u Q I rx ry ⟨_, _, rfl, rfl, h.1, c.same R h.2 rfl⟩
  · cases a <;> cases b <;> first | exact False.elim h | skip
    obtain ⟨rfl, rfl⟩ := hi _ _ rfl rfl
    exact op_pow pins sh σ H _ _ v u Q I rx ry ⟨_, _, rfl, rfl, h.1, c.same R h.2 rfl⟩
  · cases a <;> cases b <;> first | exact False.elim h | skip
    obtain ⟨rfl, rfl⟩ := hi _ _ rfl rfl
    exact op_shl pins sh σ H _ _ v u Q I rx ry ⟨_, _, rfl, rfl, h.1, c.same R h.2 rfl⟩
  · cases a <;> cases b <;> first | exact False.elim h | skip
    obtain ⟨rfl, rfl⟩ := hi _ _ rfl rfl
    exact op_shr pins sh σ H _ _ v u Q I rx ry ⟨_, _, rfl, rfl, h.1, c.same R h.2 rfl⟩
  · cases a <;> cases b <;> first | exact False.elim h | skip
    obtain ⟨rfl, rfl⟩ := hi _ _ rfl rfl
    exact op_and pins sh σ H _ _ v u Q I rx ry ⟨_, _, rfl, rfl, c.same R h rfl⟩
  · cases a <;> cases b <;> first | exact False.elim h | skip
    obtain ⟨rfl, rfl⟩ := hi _ _ rfl rfl
    exact op_or pins sh σ H _ _ v u Q I rx ry ⟨_, _, rfl, rfl, c.same R h rfl⟩

/-! ### comparisons -/
mutual
theorem Dat.dp (R : RH U ρ H s) : ∀ (d : PyData) (x : MV) (v : V), Dat s x d → RV U.K ρ H x v → Dp U.K H v d
  | .none, _, _, h, r => by cases h; rw [show _ = V.non from r]; exact .non
  | .bool b, _, _, h, r => by cases h; rw [show _ = V.bl b from r]; exact .bl b
  | .int i, _, _, h, r => by cases h; rw [show _ = V.int i from r]; exact .int i
  | .str x, _, _, h, r => by cases h; rw [show _ = V.str x from r]; exact .str x
  | .tuple ds, _, _, h, r => by
    cases h with
    | tup h =>
      obtain ⟨a, vs, rfl, h1, r⟩ := r
      exact .tup (SqT.of h1) (Dats.dp R ds _ _ h r)
  | .list ds, _, _, h, r => by
    cases h with
    | flst h =>
      obtain ⟨a, vs, rfl, h1, r⟩ := r
      exact .lst h1.seq (Dats.dp R ds _ _ h r)
    | lst e h =>
      obtain ⟨a, ha, rfl⟩ := r
      obtain ⟨vs, e2, r2⟩ := R.lst e ha
      exact .lst (SqL.of e2) (Dats.dp R ds _ _ h r2)
  | .dict _, _, _, h, _ => by cases h
theorem Dats.dp (R : RH U ρ H s) : ∀ (ds : List PyData) (xs : List MV) (vs : List V), Dats s xs ds → RVs U.K ρ H xs vs → DpAll U.K H vs ds
  | [], _, _, h, r => by cases h; rw [show _ = [] from r]; exact .nil
  | d :: ds, _, _, h, r => by
    cases h with
    | cons h1 h2 =>
      obtain ⟨v, w, rfl, r1, r2⟩ := r
      exact .cons (Dat.dp R d _ _ h1 r1) (Dats.dp R ds _ _ h2 r2)
end
/-- a comparison's reading -/
def L2c (U : Wd) (f : MV → MV → MS → (Bool → Prop) → Prop) : R2 := L2v U fun a b s Q0 => f a b s fun k => Q0 (.bl k) s
theorem eqv_int (i j : Int) : PyData.eqv (.int i) (.int j) = decide (i = j) := by
  unfold PyData.eqv
  exact Bool.beq_eq_decide_eq i j
theorem eqv_str (i j : Str) : PyData.eqv (.str i) (.str j) = decide (i = j) := by
  unfold PyData.eqv
  exact Bool.beq_eq_decide_eq i j
theorem eqW_dat {a b : MV} {Q : Bool → Prop} (h : eqW a b s Q) : (∃ i j, a = .str i ∧ b = .str j ∧ Q (decide (i = j))) ∨ ∃ d e, Dat s a d ∧ Dat s b e ∧ SeqAt.shaped d = true ∧ SeqAt.shaped e = true ∧ Q (PyData.eqv d e) := by
  unfold eqW at h
  split at h
  · rename_i i j
    refine .inr ⟨_, _, .int i, .int j, by simp [SeqAt.shaped, PyData.canLay0, PyData.depth], by simp [SeqAt.shaped, PyData.canLay0, PyData.depth], ?_⟩
    rw [eqv_int]
    exact h
  · rename_i i j
    exact .inl ⟨i, j, rfl, rfl, h⟩
  · exact .inr ⟨_, _, .non, .non, rfl, rfl, h⟩
  · rename_i i
    exact .inr ⟨_, _, .non, .int i, rfl, rfl, h⟩
  · rename_i i
    exact .inr ⟨_, _, .int i, .non, rfl, rfl, h⟩
  · exact .inr h
theorem op_eqL (hk : X.K = U.K) (hu : X.A.units + 64 < cLine) : OpR X (compareOp .Eq) (L2c U eqW) := by
  intro pins sh σ H x y v u Q I rx ry ⟨ρ, s, a, b, Q0, R, ra, rb, h, c⟩
  rcases eqW_dat h with ⟨i, j, rfl, rfl, q⟩ | ⟨d, e, h1, h2, h3, h4, q⟩
  · obtain rfl : x = _ := ra
    obtain rfl : y = _ := rb
    refine op_eq pins sh σ H _ _ v u Q I rx ry ⟨rfl, ?_⟩
    rw [dec_str, Bool.beq_eq_decide_eq]
    exact c.same R q rfl
  · refine op_eqD hu pins sh σ H x y v u Q I rx ry ⟨d, e, ?_, ?_, h3, h4, c.same R q rfl⟩
    · rw [hk]; exact Dat.dp R d a x h1 ra
    · rw [hk]; exact Dat.dp R e b y h2 rb
theorem op_neL (hk : X.K = U.K) (hu : X.A.units + 64 < cLine) : OpR X (compareOp .NotEq) (L2c U fun a b s Q => eqW a b s fun k => Q (!k)) := by
  intro pins sh σ H x y v u Q I rx ry ⟨ρ, s, a, b, Q0, R, ra, rb, h, c⟩
  rcases eqW_dat h with ⟨i, j, rfl, rfl, q⟩ | ⟨d, e, h1, h2, h3, h4, q⟩
  · obtain rfl : x = _ := ra
    obtain rfl : y = _ := rb
    refine op_ne pins sh σ H _ _ v u Q I rx ry ⟨rfl, ?_⟩
    rw [dec_str, Bool.beq_eq_decide_eq]
    exact c.same R q rfl
  · refine op_neD hu pins sh σ H x y v u Q I rx ry ⟨d, e, ?_, ?_, h3, h4, c.same R q rfl⟩
    · rw [hk]; exact Dat.dp R d a x h1 ra
    · rw [hk]; exact Dat.dp R e b y h2 rb
theorem flat_rv {x : MV} {v : V} (f : flat x = true) (r : RV U.K ρ H x v) : flatV v = true := by
  cases x with
  | non => rw [show v = _ from r]; rfl
  | bl b => rw [show v = _ from r]; rfl
  | int i => rw [show v = _ from r]; rfl
  | str z => rw [show v = _ from r]; rfl
  | _ => cases f
theorem flat_rvs : ∀ {xs : List MV} {vs : List V}, xs.all flat = true → RVs U.K ρ H xs vs → vs.all flatV = true
  | [], _, _, r => by rw [show _ = [] from r]; rfl
  | x :: xs, _, f, ⟨v, w, e, r1, r2⟩ => by
    rw [List.all_cons, Bool.and_eq_true] at f
    rw [e, List.all_cons, flat_rv f.1 r1, flat_rvs f.2 r2]
    rfl
theorem eqF_rv {x y : MV} {v w : V} (f : flat x = true) (g : flat y = true) (r : RV U.K ρ H x v) (q : RV U.K ρ H y w) : eqV v w = eqF x y := by
  cases x <;> cases y <;> first | (cases f; done) | (cases g; done) | (rw [show v = _ from r, show w = _ from q]; first | rfl | simp [eqV, eqF])
theorem inF_rv {x : MV} {v : V} (f : flat x = true) (r : RV U.K ρ H x v) : ∀ {xs : List MV} {vs : List V}, xs.all flat = true → RVs U.K ρ H xs vs → inV v vs = inF x xs
  | [], _, _, q => by rw [show _ = [] from q]; rfl
  | y :: xs, _, g, ⟨w, ws, e, q1, q2⟩ => by
    rw [List.all_cons, Bool.and_eq_true] at g
    have ih := inF_rv f r g.2 q2
    rw [e]
    unfold inV inF at *
    rw [List.any_cons, List.any_cons, eqF_rv g.1 f q1 r, ih]
theorem valV_of {κ : Type} [DecidableEq κ] {k : κ} : ∀ {kvs : List (κ × MV)} {ws : List (κ × V)}, ws.map (·.1) = kvs.map (·.1) → RVs U.K ρ H (kvs.map (·.2)) (ws.map (·.2)) →
    (∀ x, lkD k kvs = some x → ∃ v, valV ws k = some v ∧ RV U.K ρ H x v) ∧ (lkD k kvs = none → valV ws k = none)
  | [], ws, e, _ => by
    have : ws = [] := by simpa using e
    subst this
    exact ⟨fun x h => by simp [lkD] at h, fun _ => rfl⟩
  | (q, x) :: r, [], e, _ => by simp at e
  | (q, x) :: r, (q', v) :: ws, e, h => by
    simp only [List.map_cons, List.cons.injEq] at e
    obtain ⟨rfl, e⟩ := e
    obtain ⟨v2, r2, e2, h1, h2⟩ := h
    simp only [List.map_cons, List.cons.injEq] at e2
    obtain ⟨rfl, rfl⟩ := e2
    have ih := valV_of (k := k) e h2
    by_cases hq : q' = k
    · rw [valV_pos hq]
      simp only [lkD, if_pos hq]
      exact ⟨fun y hy => ⟨v, rfl, by cases hy; exact h1⟩, fun hy => by cases hy⟩
    · rw [valV_neg hq]
      simp only [lkD, if_neg hq]
      exact ih
theorem valV_isSome {κ : Type} [DecidableEq κ] {k : κ} {kvs : List (κ × MV)} {ws : List (κ × V)} (e : ws.map (·.1) = kvs.map (·.1)) (r : RVs U.K ρ H (kvs.map (·.2)) (ws.map (·.2))) : (valV ws k).isSome = (lkD k kvs).isSome := by
  obtain ⟨h1, h2⟩ := valV_of (k := k) e r
  cases q : lkD k kvs with
  | none => rw [h2 q]; rfl
  | some x =>
    obtain ⟨v, e, _⟩ := h1 x q
    rw [e]
    rfl
theorem leaf_rv {x : MV} {v : V} {k : Key} (h : leafOf x = some k) (r : RV U.K ρ H x v) : v = kV k := by
  cases x with
  | int i => cases h; exact r
  | str z => cases h; exact r
  | _ => cases h
/-- a dict of plain keys, read -/
theorem RH.dK (R : RH U ρ H s) {n : Nat} {a : Addr} {kvs : List (Key × MV)} (h : s[n]? = some (.dlf kvs) ∨ s[n]? = some (.fdl kvs)) (ha : ρ[n]? = some a) :
    ∃ ws, Rd H a (.dK ws) ∧ ws.map (·.1) = kvs.map (·.1) ∧ (kvs.map (·.1)).Nodup ∧ RVs U.K ρ H (kvs.map (·.2)) (ws.map (·.2)) := by
  rcases h with h | h
  · obtain ⟨b, hb, ws, r1, r2, r3, r4⟩ := R.at_ n _ h
    rw [ha] at hb
    cases hb
    exact ⟨ws, .inl r1, r2, r3, r4⟩
  · obtain ⟨b, hb, o, ws, r1, r2, r3, r4⟩ := R.at_ n _ h
    rw [ha] at hb
    cases hb
    exact ⟨ws, .inr ⟨o, r1⟩, r2, r3, r4⟩
/-! ### dicts with tuple keys -/
mutual
theorem nested_of {h0 : Heap} (ok : HOk U.P U.w H h0) : ∀ (x : MV) (k : NestedKey) (v : V) (u : Value), keyOf x = some k → RV U.K ρ H x v → RelV v u → NestedIs h0 k u
  | .non, _, _, _, e, r, q => by
    cases e
    rw [show _ = V.non from r] at q
    cases q
    exact .none
  | .int i, _, _, _, e, r, q => by
    cases e
    rw [show _ = V.int i from r] at q
    obtain ⟨t, rfl⟩ := q
    exact .int ..
  | .str z, _, _, _, e, r, q => by
    cases e
    rw [show _ = V.str z from r] at q
    obtain ⟨t, rfl⟩ := q
    exact .text ..
  | .tup xs, k, _, _, e, r, q => by
    unfold keyOf at e
    cases hk : keysOf xs with
    | none => rw [hk] at e; cases e
    | some ks =>
      rw [hk] at e
      cases e
      obtain ⟨a, vs, rfl, h1, r⟩ := r
      obtain rfl := q
      obtain ⟨_, its, rv, o, ho, hc, n, hd⟩ := ok a _ h1
      exact .tup ho hc hd (by simpa using nested_all ok xs ks vs its hk r rv)
  | .bl _, _, _, _, e, _, _ => by cases e
  | .flst _, _, _, _, e, _, _ => by cases e
  | .loc _, _, _, _, e, _, _ => by cases e
theorem nested_all {h0 : Heap} (ok : HOk U.P U.w H h0) : ∀ (xs : List MV) (ks : List NestedKey) (vs : List V) (us : List Value), keysOf xs = some ks → RVs U.K ρ H xs vs → Vals vs us → NestedAll h0 ks us
  | [], _, _, _, e, r, q => by
    cases e
    rw [show _ = [] from r] at q
    cases q
    exact .nil
  | x :: xs, ks, _, _, e, r, q => by
    unfold keysOf at e
    cases h1 : keyOf x with
    | none => rw [h1] at e; cases e
    | some k =>
      cases h2 : keysOf xs with
      | none => rw [h1, h2] at e; cases e
      | some ks2 =>
        rw [h1, h2] at e
        cases e
        obtain ⟨v, w, rfl, r1, r2⟩ := r
        cases q with
        | cons q1 q2 => exact .cons (nested_of ok x k v _ h1 r1 q1) (nested_all ok xs ks2 w _ h2 r2 q2)
end
mutual
theorem keyOf_ofKey : ∀ k : NestedKey, keyOf (ofKey k) = some k
  | .none => rfl
  | .num _ => rfl
  | .text _ => rfl
  | .tup ks => by
    unfold ofKey keyOf
    rw [keysOf_ofKeys ks]
theorem keysOf_ofKeys : ∀ ks : List NestedKey, keysOf (ofKeys ks) = some ks
  | [] => rfl
  | k :: r => by
    unfold ofKeys keysOf
    rw [keyOf_ofKey k, keysOf_ofKeys r]
end
mutual
theorem ofKey_keyOf : ∀ (x : MV) (k : NestedKey), keyOf x = some k → ofKey k = x
  | .non, _, e => by cases e; rfl
  | .int _, _, e => by cases e; rfl
  | .str _, _, e => by cases e; rfl
  | .tup xs, k, e => by
    unfold keyOf at e
    cases hk : keysOf xs with
    | none => rw [hk] at e; cases e
    | some ks =>
      rw [hk] at e
      cases e
      unfold ofKey
      rw [ofKeys_keysOf xs ks hk]
  | .bl _, _, e => by cases e
  | .flst _, _, e => by cases e
  | .loc _, _, e => by cases e
theorem ofKeys_keysOf : ∀ (xs : List MV) (ks : List NestedKey), keysOf xs = some ks → ofKeys ks = xs
  | [], _, e => by cases e; rfl
  | x :: xs, ks, e => by
    unfold keysOf at e
    cases h1 : keyOf x with
    | none => rw [h1] at e; cases e
    | some k =>
      cases h2 : keysOf xs with
      | none => rw [h1, h2] at e; cases e
      | some ks2 =>
        rw [h1, h2] at e
        cases e
        unfold ofKeys
        rw [ofKey_keyOf x k h1, ofKeys_keysOf xs ks2 h2]
end
/-- what is known of a dict with tuple keys -/
structure DtpR (U : Wd) (ρ : List Addr) (H : Hp) (kvs : List (NestedKey × MV)) (a : Addr) (xs : List (NestedKey × Addr × Value)) (ws : List V) : Prop where
  ext : H a = some (.ext (DtpAt U.P U.w xs a))
  keys : xs.map (·.1) = kvs.map (·.1)
  nd : (kvs.map (·.1)).Nodup
  vals : Vals ws (xs.map (·.2.2))
  rvs : RVs U.K ρ H (kvs.map (·.2)) ws
  kk : ∀ x ∈ xs, x.1.depth ≤ 8 ∧ RV U.K ρ H (ofKey x.1) (.ref x.2.1)
theorem RH.dtp (R : RH U ρ H s) {n : Nat} {a : Addr} {kvs : List (NestedKey × MV)} (h : s[n]? = some (.dtp kvs)) (ha : ρ[n]? = some a) : ∃ xs ws, DtpR U ρ H kvs a xs ws := by
  obtain ⟨b, hb, xs, ws, r1, r2, r3, r4, r5, r6⟩ := R.at_ n _ h
  rw [ha] at hb
  cases hb
  exact ⟨xs, ws, r1, r2, r3, r4, r5, r6⟩
theorem DtpR.at_ {kvs : List (NestedKey × MV)} {a : Addr} {xs : List (NestedKey × Addr × Value)} {ws : List V} {h0 : Heap} (D : DtpR U ρ H kvs a xs ws) (ok : HOk U.P U.w H h0) :
    (a == sysModules) = false ∧ h0.DictOfH (nestedKind U.P U.w) a xs := by
  obtain ⟨⟨z, o, es, ep, h1, h2, h3, h4⟩, _, _⟩ := ok a _ D.ext
  refine ⟨z, o, es, ep, h1, h2, h3, h4, fun x hx => ⟨?_, (D.kk x hx).1⟩, by rw [D.keys]; exact D.nd⟩
  exact nested_of ok (ofKey x.1) x.1 _ _ (keyOf_ofKey _) (D.kk x hx).2 rfl
theorem atKey_of {k : NestedKey} : ∀ {kvs : List (NestedKey × MV)} {xs : List (NestedKey × Addr × Value)} {ws : List V}, xs.map (·.1) = kvs.map (·.1) → Vals ws (xs.map (·.2.2)) → RVs U.K ρ H (kvs.map (·.2)) ws →
    (∀ x, lkD k kvs = some x → ∃ p v, atKey xs k = some p ∧ RelV v p.2 ∧ RV U.K ρ H x v) ∧ (lkD k kvs = none → atKey xs k = none)
  | [], xs, _, e, _, _ => by
    have : xs = [] := by simpa using e
    subst this
    exact ⟨fun x h => by simp [lkD] at h, fun _ => rfl⟩
  | (q, x) :: r, [], _, e, _, _ => by simp at e
  | (q, x) :: r, (q', a, u) :: xs, ws, e, hv, h => by
    simp only [List.map_cons, List.cons.injEq] at e
    obtain ⟨rfl, e⟩ := e
    obtain ⟨v2, r2, e2, h1, h2⟩ := h
    subst e2
    cases hv with
    | cons g1 g2 =>
      have ih := atKey_of (k := k) e g2 h2
      by_cases hq : q' = k
      · have e3 : atKey ((q', a, u) :: xs) k = some (a, u) := by unfold atKey; rw [List.find?_cons, show decide ((q', a, u).1 = k) = true from decide_eq_true hq]; rfl
        rw [e3]
        simp only [lkD, if_pos hq]
        exact ⟨fun y hy => ⟨_, v2, rfl, g1, by cases hy; exact h1⟩, fun hy => by cases hy⟩
      · have e3 : atKey ((q', a, u) :: xs) k = atKey xs k := by unfold atKey; rw [List.find?_cons, show decide ((q', a, u).1 = k) = false from decide_eq_false hq]
        rw [e3]
        simp only [lkD, if_neg hq]
        exact ih
/-- a key at hand -/
theorem key_is {x : MV} {k : NestedKey} {v : V} {u : Value} {h0 : Heap} (ok : HOk U.P U.w H h0) (e : keyOf x = some k) (hd : k.depth ≤ 8) (r : RV U.K ρ H x v) (q : RelV v u) (ht : ∃ a, v = .ref a) :
    ∃ b, u = .ref b ∧ v = .ref b ∧ (nestedKind U.P U.w).is h0 k b := by
  obtain ⟨b, rfl⟩ := ht
  obtain rfl := q
  exact ⟨b, rfl, rfl, nested_of ok x k _ _ e r rfl, hd⟩
/-! ### in -/
theorem in_parts {x y : V} {a b : MV} {Q : Bool → Prop} (R : RH U ρ H s) (ra : RV U.K ρ H a x) (rb : RV U.K ρ H b y) (h : inW a b s Q) :
    (∃ p xs, y = .ref p ∧ (SqL U.K H p xs ∨ SqT U.K H p xs) ∧ flatV x = true ∧ xs.all flatV = true ∧ Q (inV x xs)) ∨
    (∃ d ds, Dp U.K H x d ∧ Dp U.K H y (.list ds) ∧ SeqAt.shaped d = true ∧ SeqAt.shaped (.list ds) = true ∧ Q (ds.any fun e => PyData.eqv e d)) ∨
    (∃ p o, y = .ref p ∧ DGet H p x o ∧ Q o.isSome) ∨
    (∃ p kvs xs ws k, y = .ref p ∧ DtpR U ρ H kvs p xs ws ∧ tkeyOf a = some k ∧ k.depth ≤ 8 ∧ Q (lkD k kvs).isSome) ∨
    (∃ i j, x = .str i ∧ y = .str j ∧ Q (!(Builtin.Str.occurrences j i 0 j.length 1).isEmpty)) := by
  cases b with
  | tup ys =>
    obtain ⟨p, vs, rfl, h1, r⟩ := rb
    obtain ⟨h2, h3, q⟩ := h
    exact .inl ⟨p, vs, rfl, .inr (SqT.of h1), flat_rv h2 ra, flat_rvs h3 r, by rw [inF_rv h2 ra h3 r]; exact q⟩
  | loc n =>
    obtain ⟨p, hp, rfl⟩ := rb
    unfold inW at h
    simp only at h
    split at h
    · rename_i ys e
      obtain ⟨vs, e1, r⟩ := R.lst e hp
      rcases h with ⟨h2, h3, q⟩ | ⟨d, ds, h1, h2, h3, h4, q⟩
      · exact .inl ⟨p, vs, rfl, .inl (SqL.of e1), flat_rv h2 ra, flat_rvs h3 r, by rw [inF_rv h2 ra h3 r]; exact q⟩
      · exact .inr (.inl ⟨d, ds, Dat.dp R d a x h1 ra, .lst (SqL.of e1) (Dats.dp R ds ys vs h2 r), h3, h4, q⟩)
    · rename_i kvs e
      obtain ⟨ws, e1, e2, e3, e4⟩ := R.dK (.inl e) hp
      split at h
      · rename_i k ek
        refine .inr (.inr (.inl ⟨p, _, rfl, .inl ⟨ws, k, e1, leaf_rv ek ra, rfl⟩, ?_⟩))
        rw [valV_isSome e2 e4]
        exact h
      · exact h.elim
    · rename_i kvs e
      obtain ⟨ws, e1, e2, e3, e4⟩ := R.dK (.inr e) hp
      split at h
      · rename_i k ek
        refine .inr (.inr (.inl ⟨p, _, rfl, .inl ⟨ws, k, e1, leaf_rv ek ra, rfl⟩, ?_⟩))
        rw [valV_isSome e2 e4]
        exact h
      · exact h.elim
    · rename_i kvs e
      obtain ⟨xs, ws, D⟩ := R.dtp e hp
      split at h
      · rename_i k ek
        exact .inr (.inr (.inr (.inl ⟨p, kvs, xs, ws, k, rfl, D, ek, h.1, h.2⟩)))
      · exact h.elim
    · exact h.elim
  | str z =>
    obtain rfl : y = _ := rb
    cases a with
    | str w =>
      obtain rfl : x = _ := ra
      exact .inr (.inr (.inr (.inr ⟨w, z, rfl, rfl, h⟩)))
    | _ => exact h.elim
  | _ => exact h.elim
theorem tkey_ref {a : MV} {k : NestedKey} {x : V} (e : tkeyOf a = some k) (r : RV U.K ρ H a x) : keyOf a = some k ∧ ∃ b, x = .ref b := by
  cases a with
  | tup xs =>
    obtain ⟨b, vs, rfl, _⟩ := r
    exact ⟨e, b, rfl⟩
  | _ => cases e
/-- what a body's context must have beside -/
structure Ctx (U : Wd) (X : Cx) : Prop where
  P : X.prog = U.P
  w : X.w = U.w
  K : X.K = U.K
  calm : X.calm = true
  un : X.A.units + 100 < cLine
theorem Ctx.ok (c : Ctx U X) {pins : List (Addr × Obj)} {σ : St} {sh : Shared} (I : Inv X pins σ H sh) : HOk U.P U.w H sh.heap := by
  have := I.hok
  rw [c.P, c.w] at this
  exact this
theorem Ctx.room (c : Ctx U X) : (nestedKind U.P U.w).room X.A.in1 := by
  have := c.un
  show X.A.units + 1 + 8 < cLine
  omega
theorem op_inL (cx : Ctx U X) : OpR X (compareOp .In) (L2c U inW) := by
  intro pins sh σ H x y v u Q I rx ry ⟨ρ, s, a, b, Q0, R, ra, rb, h, c⟩
  have un := cx.un
  rcases in_parts R ra rb h with ⟨p, xs, rfl, h1, h2, h3, q⟩ | ⟨d, ds, h1, h2, h3, h4, q⟩ | ⟨p, o, rfl, g, q⟩ | ⟨p, kvs, xs, ws, k, rfl, D, ek, hd, q⟩ | ⟨i, j, rfl, rfl, q⟩
  · exact op_in_seq pins sh σ H _ _ v u Q I rx ry ⟨p, xs, rfl, by rw [cx.K]; exact h1, h2, h3, c.same R q rfl⟩
  · exact op_inD (by omega) pins sh σ H _ _ v u Q I rx ry ⟨d, ds, by rw [cx.K]; exact h1, by rw [cx.K]; exact h2, h3, h4, c.same R q rfl⟩
  · obtain rfl := ry
    exact d_in (by omega) I g rx fun s' I' => ⟨.bl _, H, I', rfl, c.same R q rfl⟩
  · obtain rfl := ry
    obtain ⟨ek, hr⟩ := tkey_ref ek ra
    obtain ⟨b', rfl, e2, hk⟩ := key_is (cx.ok I) ek hd ra rx hr
    obtain ⟨z, dd⟩ := D.at_ (cx.ok I)
    rw [cx.P, cx.w]
    refine wpAny_in_heap cx.room hk z dd ?_
    obtain ⟨f1, f2⟩ := atKey_of (k := k) D.keys D.vals D.rvs
    refine ⟨.bl _, H, I.tok _, rfl, ?_⟩
    have e : (atKey xs k).isSome = (lkD k kvs).isSome := by
      cases q2 : lkD k kvs with
      | none => rw [f2 q2]; rfl
      | some x2 =>
        obtain ⟨p2, _, e3, _⟩ := f1 x2 q2
        rw [e3]
        rfl
    rw [e]
    exact c.same R q rfl
  · exact op_in_str pins sh σ H _ _ v u Q I rx ry ⟨i, j, rfl, rfl, c.same R q rfl⟩
theorem op_ninL (cx : Ctx U X) : OpR X (compareOp .NotIn) (L2c U fun a b s Q => inW a b s fun k => Q (!k)) := by
  intro pins sh σ H x y v u Q I rx ry ⟨ρ, s, a, b, Q0, R, ra, rb, h, c⟩
  have un := cx.un
  rcases in_parts R ra rb h with ⟨p, xs, rfl, h1, h2, h3, q⟩ | ⟨d, ds, h1, h2, h3, h4, q⟩ | ⟨p, o, rfl, g, q⟩ | ⟨p, kvs, xs, ws, k, rfl, D, ek, hd, q⟩ | ⟨i, j, rfl, rfl, q⟩
  · exact op_notIn_seq pins sh σ H _ _ v u Q I rx ry ⟨p, xs, rfl, by rw [cx.K]; exact h1, h2, h3, c.same R q rfl⟩
  · exact op_notInD (by omega) pins sh σ H _ _ v u Q I rx ry ⟨d, ds, by rw [cx.K]; exact h1, by rw [cx.K]; exact h2, h3, h4, c.same R q rfl⟩
  · obtain rfl := ry
    exact d_notIn (by omega) I g rx fun s' I' => ⟨.bl _, H, I', rfl, c.same R q rfl⟩
  · obtain rfl := ry
    obtain ⟨ek, hr⟩ := tkey_ref ek ra
    obtain ⟨b', rfl, e2, hk⟩ := key_is (cx.ok I) ek hd ra rx hr
    obtain ⟨z, dd⟩ := D.at_ (cx.ok I)
    rw [cx.P, cx.w]
    refine notIn_keyed (kvs := pairsH xs) cx.room hk z ⟨xs, dd, rfl⟩ ?_
    obtain ⟨f1, f2⟩ := atKey_of (k := k) D.keys D.vals D.rvs
    refine ⟨.bl _, H, I.tok _, rfl, ?_⟩
    have e : (valueAt (pairsH xs) k).isSome = (lkD k kvs).isSome := by
      rw [valueAt_pairsH, Option.isSome_map]
      cases q2 : lkD k kvs with
      | none => rw [f2 q2]; rfl
      | some x2 =>
        obtain ⟨p2, _, e3, _⟩ := f1 x2 q2
        rw [e3]
        rfl
    rw [e]
    exact c.same R q rfl
  · exact op_notIn_str pins sh σ H _ _ v u Q I rx ry ⟨i, j, rfl, rfl, c.same R q rfl⟩
/-- any comparison but is, is not -/
theorem op_cmpL (cx : Ctx U X) {o : COp} {p : CmpOp} (hb : copB o p = true) (h1 : o ≠ .isn) (h2 : o ≠ .notn) : OpR X (compareOp p) (L2c U (cmpW o)) := by
  have un := cx.un
  have ord : ∀ (o : COp) (p : CmpOp) (f : Int → Int → Bool), OpR X (compareOp p) (rI0 fun i j => .bl (f i j)) → (∀ a b s Q, cmpW o a b s Q → ∃ i j, a = .int i ∧ b = .int j ∧ Q (f i j)) → OpR X (compareOp p) (L2c U (cmpW o)) := by
    intro o p f hop hf pins sh σ H x y v u Q I rx ry ⟨ρ, s, a, b, Q0, R, ra, rb, h, c⟩
    obtain ⟨i, j, rfl, rfl, q⟩ := hf _ _ _ _ h
    obtain rfl : x = _ := ra
    obtain rfl : y = _ := rb
    exact hop pins sh σ H _ _ v u Q I rx ry ⟨i, j, rfl, rfl, c.same R q rfl⟩
  cases o <;> cases p <;> first | exact absurd hb (by decide) | exact absurd rfl h1 | exact absurd rfl h2 | skip
  · exact op_eqL cx.K (by omega)
  · exact op_neL cx.K (by omega)
  · exact ord .lt .Lt _ op_lt fun a b s Q h => by
      cases a <;> cases b <;> first | exact False.elim h | exact ⟨_, _, rfl, rfl, h⟩
  · exact ord .le .LtE _ op_le fun a b s Q h => by
      cases a <;> cases b <;> first | exact False.elim h | exact ⟨_, _, rfl, rfl, h⟩
  · exact ord .gt .Gt _ op_gt fun a b s Q h => by
      cases a <;> cases b <;> first | exact False.elim h | exact ⟨_, _, rfl, rfl, h⟩
  · exact ord .ge .GtE _ op_ge fun a b s Q h => by
      cases a <;> cases b <;> first | exact False.elim h | exact ⟨_, _, rfl, rfl, h⟩
  · exact op_inL cx
  · exact op_ninL cx
theorem op_isL {o : COp} {p : CmpOp} (hb : copB o p = true) (h1 : o = .isn ∨ o = .notn) : OpR X (compareOp p) (L2c U (cmpW o)) := by
  intro pins sh σ H x y v u Q I rx ry ⟨ρ, s, a, b, Q0, R, ra, rb, h, c⟩
  have key : ∀ (k : Bool), (a = .non → x = .non) ∧ (a ≠ .non → x ≠ .non) := fun _ => by
    cases a with
    | non => exact ⟨fun _ => ra, fun z => absurd rfl z⟩
    | bl b => rw [show x = _ from ra]; exact ⟨fun z => (by cases z), fun _ z => (by cases z)⟩
    | int b => rw [show x = _ from ra]; exact ⟨fun z => (by cases z), fun _ z => (by cases z)⟩
    | str b => rw [show x = _ from ra]; exact ⟨fun z => (by cases z), fun _ z => (by cases z)⟩
    | tup b => obtain ⟨_, _, rfl, _⟩ := ra; exact ⟨fun z => (by cases z), fun _ z => (by cases z)⟩
    | flst b => obtain ⟨_, _, rfl, _⟩ := ra; exact ⟨fun z => (by cases z), fun _ z => (by cases z)⟩
    | loc b => obtain ⟨_, _, rfl⟩ := ra; exact ⟨fun z => (by cases z), fun _ z => (by cases z)⟩
  have hy : y = .non ∧ (match a with
      | .non => Q0 (.bl (decide (o = .isn))) s
      | _ => Q0 (.bl (!decide (o = .isn))) s) := by
    rcases h1 with rfl | rfl
    · cases b <;> first | exact False.elim h | exact ⟨rb, by cases a <;> exact h⟩
    · cases b <;> first | exact False.elim h | exact ⟨rb, by cases a <;> exact h⟩
  have hx : Q0 (.bl (if x = .non then decide (o = .isn) else !decide (o = .isn))) s := by
    by_cases ha : a = .non
    · rw [if_pos ((key true).1 ha)]
      subst ha
      exact hy.2
    · rw [if_neg ((key true).2 ha)]
      cases a <;> first | exact absurd rfl ha | exact hy.2
  rcases h1 with rfl | rfl
  · cases p <;> first | exact absurd hb (by decide) | skip
    refine op_isN pins sh σ H x y v u Q I rx ry ⟨hy.1, ?_⟩
    by_cases hn : x = .non
    · rw [if_pos hn] at hx
      rw [decide_eq_true hn]
      exact c.same R hx rfl
    · rw [if_neg hn] at hx
      rw [decide_eq_false hn]
      exact c.same R hx rfl
  · cases p <;> first | exact absurd hb (by decide) | skip
    refine op_notN pins sh σ H x y v u Q I rx ry ⟨hy.1, ?_⟩
    by_cases hn : x = .non
    · rw [if_pos hn] at hx
      rw [decide_eq_true hn]
      exact c.same R hx rfl
    · rw [if_neg hn] at hx
      rw [decide_eq_false hn]
      exact c.same R hx rfl
theorem op_anyL (cx : Ctx U X) {o : COp} {p : CmpOp} (hb : copB o p = true) : OpR X (compareOp p) (L2c U (cmpW o)) := by
  by_cases h1 : o = .isn
  · exact op_isL hb (.inl h1)
  · by_cases h2 : o = .notn
    · exact op_isL hb (.inr h2)
    · exact op_cmpL cx hb h1 h2
/-! ### subscripts -/
theorem atI_rv {xs : List MV} {vs : List V} {i : Int} {x : MV} (r : RVs U.K ρ H xs vs) (e : atI xs i = some x) : ∃ v, atI vs i = some v ∧ RV U.K ρ H x v := by
  unfold atI at *
  rw [← r.length]
  cases h : ixN xs.length i with
  | none => rw [h] at e; cases e
  | some j =>
    rw [h] at e
    exact r.get (i := j) e
theorem d_getT (cx : Ctx U X) {pins : List (Addr × Obj)} {σ : St} {sh : Shared} {E : Value → Shared → Prop} {kvs : List (NestedKey × MV)} {p : Addr} {xs : List (NestedKey × Addr × Value)} {ws : List V} {b : MV} {k : NestedKey} {y : V} {u : Value} {x : MV} {Q : Value → Shared → Prop}
    (I : Inv X pins σ H sh) (D : DtpR U ρ H kvs p xs ws) (ek : tkeyOf b = some k) (hd : k.depth ≤ 8) (rb : RV U.K ρ H b y) (ry : RelV y u) (l : lkD k kvs = some x) (h : ∀ v w' s', Inv X pins σ H s' → RelV v w' → RV U.K ρ H x v → Q w' s') :
    wpAny (model X.prog X.w) X.A (getItem (.ref p) u) Q E sh := by
  obtain ⟨ek, hr⟩ := tkey_ref ek rb
  obtain ⟨b', rfl, e2, hk⟩ := key_is (cx.ok I) ek hd rb ry hr
  obtain ⟨z, dd⟩ := D.at_ (cx.ok I)
  obtain ⟨f1, f2⟩ := atKey_of (k := k) D.keys D.vals D.rvs
  obtain ⟨p2, v, e3, r3, r4⟩ := f1 x l
  rw [cx.P, cx.w]
  exact wpAny_getItem_heap cx.room hk dd e3 (h v _ _ (I.tok _) r3 r4)
theorem tail_dict {prog : Program} {w : World} {A : Around} {E : Value → Shared → Prop} {sh : Shared} {value slice : Expr} {o i : Value} {Q : Value → Shared → Prop}
    (hT : sh.TypeIs o "dict") (hs : subscripted slice false o i = operate [o, i] (getItem o i)) (h : wpAny (model prog w) A (getItem o i) Q E sh) : wpAny (model prog w) A (PyProof.Rows.subscriptTail value slice o i) Q E sh := by
  unfold PyProof.Rows.subscriptTail
  refine wpAny_bind ?_
  rw [getitemInPython_of_ne hT.not_modules]
  refine wpAny_bind (wpAny_specialOf hT PySem.F.slot_dict_getitem.lookup ?_)
  have fin : wpAny (model prog w) A (subscripted slice false o i) (fun r s₃ => wpAny (model prog w) A (letTemporaryGo value o r >>= fun _ => pure r) Q E s₃) E sh := by
    rw [hs]
    exact wpAny_operating (wpAny_mono h (fun r s₃ h₃ => wpAny_bind (wpAny_letTemporaryGo (wpAny_pure h₃))) fun _ _ x => x)
  first
    | exact wpAny_pure (wpAny_bind fin)
    | exact wpAny_bind (wpAny_pure (wpAny_bind fin))
    | exact wpAny_bind fin
theorem ix_any (cx : Ctx U X) : IxR X (L2v U ixW) := by
  intro value slice pins sh σ H x y v u Q I rx ry ⟨ρ, s, a, b, Q0, R, ra, rb, h, c⟩ hs
  have un := cx.un
  have int : ∀ {xs : List MV} {vs : List V}, RVs U.K ρ H xs vs → atW xs b s Q0 → ∃ i v, y = .int i ∧ atI vs i = some v ∧ Q v H := by
    intro xs vs r h
    unfold atW at h
    cases b with
    | int i =>
      obtain rfl : y = _ := rb
      simp only at h
      split at h
      · rename_i z e
        obtain ⟨v, e2, r2⟩ := atI_rv r e
        exact ⟨i, v, rfl, e2, c.same R h r2⟩
      · exact h.elim
    | _ => exact h.elim
  have dk : ∀ {n : Nat} {kvs : List (Key × MV)}, (s[n]? = some (.dlf kvs) ∨ s[n]? = some (.fdl kvs)) → RV U.K ρ H (.loc n) x → lkW kvs b s Q0 → wpAny (model X.prog X.w) X.A (PyProof.Rows.subscriptTail value slice v u) (EP X pins σ Q) X.xe sh := by
    intro n kvs e rx' h
    unfold lkW at h
    obtain ⟨p, hp, rfl⟩ := rx'
    obtain ⟨ws, e1, e2, e3, e4⟩ := R.dK e hp
    split at h
    · rename_i k ek
      split at h
      · rename_i z ez
        obtain ⟨v2, g1, g2⟩ := (valV_of (k := k) e2 e4).1 z ez
        obtain rfl := rx
        have g : DGet H p y (some v2) := .inl ⟨ws, k, e1, leaf_rv ek rb, g1.symm⟩
        exact tail_dict (dict_typeIs I g) hs (d_getItem (by omega) I g ry fun w' s3 I3 rw' => ⟨v2, H, I3, rw', c.same R h g2⟩)
      · exact h.elim
    · exact h.elim
  cases a with
  | loc n =>
    obtain ⟨p, hp, rfl⟩ := id ra
    unfold ixW at h
    simp only at h
    split at h
    · rename_i xs e
      obtain ⟨vs, e1, r⟩ := R.lst e hp
      obtain ⟨i, v2, rfl, e2, q⟩ := int r h
      exact ix_list value slice pins sh σ H _ _ v u Q I rx ry ⟨p, vs, i, v2, rfl, rfl, SqL.of e1, e2, q⟩ hs
    · rename_i kvs e
      exact dk (.inl e) ra h
    · rename_i kvs e
      exact dk (.inr e) ra h
    · rename_i kvs e
      obtain ⟨xs, ws, D⟩ := R.dtp e hp
      split at h
      · rename_i k ek
        split at h
        · rename_i z ez
          obtain rfl := rx
          obtain ⟨z1, dd⟩ := D.at_ (cx.ok I)
          exact tail_dict dd.typeIs hs (d_getT cx I D ek h.1 rb ry ez fun v2 w' s3 I3 r3 r4 => ⟨v2, H, I3, r3, c.same R h.2 r4⟩)
        · exact h.elim
      · exact h.elim
    · exact h.elim
  | tup xs =>
    obtain ⟨p, vs, rfl, h1, r⟩ := ra
    obtain ⟨i, v2, rfl, e2, q⟩ := int r h
    exact ix_tup value slice pins sh σ H _ _ v u Q I rx ry ⟨p, vs, i, v2, rfl, rfl, SqT.of h1, e2, q⟩ hs
  | flst xs =>
    obtain ⟨p, vs, rfl, h1, r⟩ := ra
    obtain ⟨i, v2, rfl, e2, q⟩ := int r h
    refine ix_list value slice pins sh σ H _ _ v u Q I rx ry ⟨p, vs, i, v2, rfl, rfl, ?_, e2, q⟩ hs
    rw [cx.K]
    exact h1.seq
  | str z =>
    obtain rfl : x = _ := ra
    cases b with
    | int i =>
      obtain rfl : y = _ := rb
      unfold ixW at h
      simp only at h
      split at h
      · rename_i k e
        exact ix_str value slice pins sh σ H _ _ v u Q I rx ry ⟨z, i, k, rfl, rfl, h.1, e, c.same R h.2 rfl⟩ hs
      · exact h.elim
    | _ => exact h.elim
  | _ => exact h.elim
/-! ### slices -/
def L1s (U : Wd) : V → Option Int → Option Int → Hp → VK → Prop := fun x lo hi H Q => ∃ ρ s a Q0, RH U ρ H s ∧ RV U.K ρ H a x ∧ slW a lo hi s Q0 ∧ CV U ρ H Q0 Q
theorem cut_rv {xs : List MV} {vs : List V} {lo hi : Option Int} (r : RVs U.K ρ H xs vs) : RVs U.K ρ H (cutM xs lo hi) (cutV vs lo hi) := by
  unfold cutM cutV
  rw [← r.length]
  exact (r.drop _).take _
theorem sl_any (cx : Ctx U X) : SlR X (L1s U) := by
  intro pins sh σ H x v vl vu lo hi sl Q I rx hs pl pu ⟨ρ, s, a, Q0, R, ra, h, c⟩
  cases a with
  | loc n =>
    obtain ⟨p, hp, rfl⟩ := ra
    unfold slW at h
    simp only at h
    split at h
    · rename_i xs e
      obtain ⟨vs, e1, r⟩ := R.lst e hp
      exact sl_list pins sh σ H _ v vl vu lo hi sl Q I rx hs pl pu ⟨p, vs, rfl, SqL.of e1, fun q hq => c.newL R h hq (cut_rv r)⟩
    · exact h.elim
  | flst xs =>
    obtain ⟨p, vs, rfl, h1, r⟩ := ra
    refine sl_list pins sh σ H _ v vl vu lo hi sl Q I rx hs pl pu ⟨p, vs, rfl, ?_, fun q hq => c.newL R h hq (cut_rv r)⟩
    rw [cx.K]
    exact h1.seq
  | str z =>
    obtain rfl : x = _ := ra
    exact sl_str pins sh σ H _ v vl vu lo hi sl Q I rx hs pl pu ⟨z, rfl, h.1, c.same R h.2 rfl⟩
  | _ => exact h.elim
end
end Ly
namespace Ly
open PySem L2
section
variable {U : Wd} {X : Cx} {ρ : List Addr} {H : Hp} {s : MS}
/-! ### stores into dicts -/
section
variable {κ : Type} [DecidableEq κ]
theorem putD_new {k : κ} {x : MV} : ∀ {kvs : List (κ × MV)}, lkD k kvs = none → putD k x kvs = kvs ++ [(k, x)]
  | [], _ => rfl
  | (q, y) :: r, h => by
    unfold lkD at h
    by_cases hq : q = k
    · rw [if_pos hq] at h; cases h
    · rw [if_neg hq] at h
      unfold putD
      rw [if_neg hq, putD_new h]
      rfl
theorem lkD_mem {k : κ} : ∀ {kvs : List (κ × MV)}, lkD k kvs = none ↔ k ∉ kvs.map (·.1)
  | [] => by simp [lkD]
  | (q, y) :: r => by
    unfold lkD
    by_cases hq : q = k
    · rw [if_pos hq]; simp [hq]
    · rw [if_neg hq, lkD_mem (kvs := r)]
      simp only [List.map_cons, List.mem_cons, not_or]
      exact ⟨fun h => ⟨fun e => hq e.symm, h⟩, fun h => h.2⟩
theorem putD_keys {k : κ} {x : MV} : ∀ {kvs : List (κ × MV)}, lkD k kvs ≠ none → (putD k x kvs).map (·.1) = kvs.map (·.1)
  | [], h => absurd rfl h
  | (q, y) :: r, h => by
    unfold lkD at h
    unfold putD
    by_cases hq : q = k
    · rw [if_pos hq]; simp [hq]
    · rw [if_neg hq] at h
      rw [if_neg hq, List.map_cons, List.map_cons, putD_keys h]
theorem putD_nd {k : κ} {x : MV} {kvs : List (κ × MV)} (h : (kvs.map (·.1)).Nodup) : ((putD k x kvs).map (·.1)).Nodup := by
  by_cases hk : lkD k kvs = none
  · rw [putD_new hk, List.map_append, List.nodup_append]
    refine ⟨h, by simp, fun a ha b hb => ?_⟩
    simp at hb
    subst hb
    exact fun e => lkD_mem.mp hk (e ▸ ha)
  · rw [putD_keys hk]
    exact h
theorem map_rep_no {k : κ} {v : V} : ∀ {ws : List (κ × V)}, k ∉ ws.map (·.1) → (ws.map fun kv => if kv.1 = k then (kv.1, v) else kv) = ws
  | [], _ => rfl
  | (q, y) :: r, h => by
    simp only [List.map_cons, List.mem_cons, not_or] at h
    rw [List.map_cons, map_rep_no h.2, if_neg (fun e => h.1 e.symm)]
theorem putK_rv {k : κ} {x : MV} {v : V} (rx : RV U.K ρ H x v) : ∀ {kvs : List (κ × MV)} {ws : List (κ × V)}, ws.map (·.1) = kvs.map (·.1) → (kvs.map (·.1)).Nodup → RVs U.K ρ H (kvs.map (·.2)) (ws.map (·.2)) →
    (putK ws k v).map (·.1) = (putD k x kvs).map (·.1) ∧ RVs U.K ρ H ((putD k x kvs).map (·.2)) ((putK ws k v).map (·.2))
  | [], ws, e, _, _ => by
    have : ws = [] := by simpa using e
    subst this
    exact ⟨rfl, v, [], rfl, rx, rfl⟩
  | (q, y) :: r, [], e, _, _ => by simp at e
  | (q, y) :: r, (q', w) :: ws, e, nd, h => by
    simp only [List.map_cons, List.cons.injEq] at e
    obtain ⟨rfl, e⟩ := e
    obtain ⟨v2, r2, e2, h1, h2⟩ := h
    simp only [List.map_cons, List.cons.injEq] at e2
    obtain ⟨rfl, rfl⟩ := e2
    rw [List.map_cons, List.nodup_cons] at nd
    by_cases hq : q' = k
    · have hn : k ∉ ws.map (·.1) := by rw [e, ← hq]; exact nd.1
      have e1 : putK ((q', w) :: ws) k v = (q', v) :: ws := by
        unfold putK
        rw [if_pos (by simp [hq]), List.map_cons, map_rep_no hn, if_pos hq]
      have e3 : putD k x ((q', y) :: r) = (q', x) :: r := by
        unfold putD
        rw [if_pos hq, hq]
      rw [e1, e3]
      exact ⟨by rw [List.map_cons, List.map_cons, e], v, _, rfl, rx, h2⟩
    · have ih := putK_rv rx e nd.2 h2 (k := k)
      have e1 : putK ((q', w) :: ws) k v = (q', w) :: putK ws k v := by
        unfold putK
        rw [List.any_cons, show decide ((q', w).1 = k) = false from decide_eq_false hq, Bool.false_or]
        by_cases ha : (ws.any fun kv => decide (kv.1 = k)) = true
        · rw [if_pos ha, if_pos ha, List.map_cons, if_neg hq]
        · rw [if_neg ha, if_neg ha]
          rfl
      have e3 : putD k x ((q', y) :: r) = (q', y) :: putD k x r := by
        show (if q' = k then _ else _) = _
        rw [if_neg hq]
      rw [e1, e3]
      exact ⟨by rw [List.map_cons, List.map_cons, ih.1], w, _, rfl, h1, ih.2⟩
end
theorem storedH_cons {k q : NestedKey} {a b : Addr} {u w : Value} {xs : List (NestedKey × Addr × Value)} (hn : q ∉ xs.map (·.1)) :
    storedH ((q, b, w) :: xs) k a u = if q = k then (q, b, u) :: xs else (q, b, w) :: storedH xs k a u := by
  by_cases hq : q = k
  · rw [if_pos hq]
    have e : atKey ((q, b, w) :: xs) k = some (b, w) := by unfold atKey; rw [List.find?_cons, show decide ((q, b, w).1 = k) = true from decide_eq_true hq]; rfl
    rw [storedH_old e, List.map_cons, map_putAt_of_not_mem xs k u (hq ▸ hn)]
    unfold putAt
    rw [if_pos hq]
  · rw [if_neg hq]
    have e : atKey ((q, b, w) :: xs) k = atKey xs k := by unfold atKey; rw [List.find?_cons, show decide ((q, b, w).1 = k) = false from decide_eq_false hq]
    unfold storedH
    rw [e]
    by_cases hs : (atKey xs k).isSome = true
    · rw [if_pos hs, if_pos hs, List.map_cons]
      congr 1
      unfold putAt
      rw [if_neg hq]
    · rw [if_neg hs, if_neg hs]
      rfl
theorem putT_rv {k : NestedKey} {x : MV} {v : V} {u : Value} {a : Addr} (rx : RV U.K ρ H x v) (ru : RelV v u) (ka : RV U.K ρ H (ofKey k) (.ref a)) (kd : k.depth ≤ 8) : ∀ {kvs : List (NestedKey × MV)} {xs : List (NestedKey × Addr × Value)} {ws : List V},
    xs.map (·.1) = kvs.map (·.1) → (kvs.map (·.1)).Nodup → Vals ws (xs.map (·.2.2)) → RVs U.K ρ H (kvs.map (·.2)) ws → (∀ y ∈ xs, y.1.depth ≤ 8 ∧ RV U.K ρ H (ofKey y.1) (.ref y.2.1)) →
    ∃ ws', (storedH xs k a u).map (·.1) = (putD k x kvs).map (·.1) ∧ Vals ws' ((storedH xs k a u).map (·.2.2)) ∧ RVs U.K ρ H ((putD k x kvs).map (·.2)) ws' ∧ ∀ y ∈ storedH xs k a u, y.1.depth ≤ 8 ∧ RV U.K ρ H (ofKey y.1) (.ref y.2.1)
  | [], xs, ws, e, _, _, _, _ => by
    have : xs = [] := by simpa using e
    subst this
    refine ⟨[v], rfl, .cons ru .nil, ⟨v, [], rfl, rx, rfl⟩, fun y hy => ?_⟩
    have : y = (k, a, u) := by simpa [storedH, atKey] using hy
    subst this
    exact ⟨kd, ka⟩
  | (q, y) :: r, [], _, e, _, _, _, _ => by simp at e
  | (q, y) :: r, (q', b, w) :: xs, ws, e, nd, hv, h, kk => by
    simp only [List.map_cons, List.cons.injEq] at e
    obtain ⟨rfl, e⟩ := e
    obtain ⟨v2, r2, e2, h1, h2⟩ := h
    subst e2
    rw [List.map_cons, List.nodup_cons] at nd
    have hn : q' ∉ xs.map (·.1) := by rw [e]; exact nd.1
    rw [storedH_cons hn]
    cases hv with
    | cons g1 g2 =>
      by_cases hq : q' = k
      · have e3 : putD k x ((q', y) :: r) = (q', x) :: r := by
          unfold putD
          rw [if_pos hq, hq]
        rw [if_pos hq, e3]
        refine ⟨v :: r2, by rw [List.map_cons, List.map_cons, e], .cons ru g2, ⟨v, r2, rfl, rx, h2⟩, fun z hz => ?_⟩
        rcases List.mem_cons.mp hz with rfl | hz
        · exact kk (q', b, w) List.mem_cons_self
        · exact kk z (List.mem_cons_of_mem _ hz)
      · have e3 : putD k x ((q', y) :: r) = (q', y) :: putD k x r := by
          show (if q' = k then _ else _) = _
          rw [if_neg hq]
        rw [if_neg hq, e3]
        obtain ⟨ws', i1, i2, i3, i4⟩ := putT_rv rx ru ka kd e nd.2 g2 h2 (fun z hz => kk z (List.mem_cons_of_mem _ hz))
        refine ⟨v2 :: ws', by rw [List.map_cons, List.map_cons, i1], .cons g1 i2, ⟨v2, ws', rfl, h1, i3⟩, fun z hz => ?_⟩
        rcases List.mem_cons.mp hz with rfl | hz
        · exact kk _ List.mem_cons_self
        · exact i4 z hz
/-! ### o[i] = v -/
def CS (U : Wd) (ρ : List Addr) (H : Hp) (Q0 : MS → Prop) (Q : Hp → Prop) : Prop := ∀ s' ρ' H', Q0 s' → Mo ρ H ρ' H' → RH U ρ' H' s' → Q H'
def L3s (U : Wd) : TSet := fun o i v H Q => ∃ ρ s a b c Q0, RH U ρ H s ∧ RV U.K ρ H a o ∧ RV U.K ρ H b i ∧ RV U.K ρ H c v ∧ setW a b c s Q0 ∧ CS U ρ H Q0 Q
theorem DtpAt.stay {P : Program} {w : World} {xs : List (NestedKey × Addr × Value)} {a : Addr} {h1 h2 : Heap} (x : DtpAt P w xs a h1) (k : ∀ o, h1.get? a = some o → h2.get? a = some o) : DtpAt P w xs a h2 := by
  obtain ⟨z, o, es, ep, e, r⟩ := x
  exact ⟨z, o, es, ep, k o e, r⟩
theorem DtpAt.obj {X : Cx} {xs : List (NestedKey × Addr × Value)} {a : Addr} {H' : Hp} {h' : Heap} (x : DtpAt X.prog X.w xs a h') : ObjOk X.prog X.w H' h' a (.ext (DtpAt X.prog X.w xs a)) :=
  ⟨x, let ⟨_, o, _, _, e, _⟩ := x; ⟨o, e⟩, fun _ _ p k => p.stay k⟩
theorem d_putT (cx : Ctx U X) {pins : List (Addr × Obj)} {σ : St} {sh : Shared} {E : Value → Shared → Prop} {kvs : List (NestedKey × MV)} {p : Addr} {xs : List (NestedKey × Addr × Value)} {ws : List V} {b c : MV} {k : NestedKey} {y v : V} {u r : Value} {n : Nat} {Q : Unit → Shared → Prop}
    (I : Inv X pins σ H sh) (R : RH U ρ H s) (hn : s[n]? = some (.dtp kvs)) (hp : ρ[n]? = some p) (D : DtpR U ρ H kvs p xs ws) (ek : tkeyOf b = some k) (hd : k.depth ≤ 8) (hl : kvs.length < sizeLine) (rb : RV U.K ρ H b y) (ry : RelV y u) (rc : RV U.K ρ H c v) (rv : RelV v r)
    (h : ∀ H' s', Inv X pins σ H' s' → Mo ρ H ρ H' → RH U ρ H' (s.set n (.dtp (putD k c kvs))) → Q () s') : wpAny (model X.prog X.w) X.A (setItem (.ref p) u r) Q E sh := by
  obtain ⟨ek, hr⟩ := tkey_ref ek rb
  obtain ⟨b', rfl, rfl, hk⟩ := key_is (cx.ok I) ek hd rb ry hr
  obtain ⟨z, dd⟩ := D.at_ (cx.ok I)
  have hx : xs.length = kvs.length := by have := congrArg List.length D.keys; simpa using this
  have mu : Mut (H p) := by rw [D.ext]; trivial
  have go : wpAny (model U.P U.w) X.A (setItem (.ref p) (.ref b') r) Q E sh := by
    refine wpAny_setItem_heap (hsz := by rw [hx]; omega) cx.room hk dd fun h' hm' hs => ?_
    have rk : RV U.K ρ H (ofKey k) (.ref b') := by rw [ofKey_keyOf b k ek]; exact rb
    obtain ⟨ws', i1, i2, i3, i4⟩ := putT_rv (k := k) (a := b') rc rv rk hd D.keys D.nd D.vals D.rvs D.kk
    obtain ⟨o', es', ep', g1, g2, g3, g4, g5, g6⟩ := hm'
    have da : DtpAt X.prog X.w (storedH xs k b' r) p h' := by
      rw [cx.P, cx.w]
      exact ⟨z, o', es', ep', g1, g2, g3, g4⟩
    have I' := d_write (t' := sh.toks + (nestedKind U.P U.w).draws k) I mu hs ⟨_, g1⟩ (DtpAt.obj (H' := upd H p (.ext (DtpAt X.prog X.w (storedH xs k b' r) p))) da)
    refine h _ _ I' (Mo.write mu) (R.write hp (List.getElem?_eq_some_iff.mp hn).1 mu ?_)
    refine ⟨storedH xs k b' r, ws', by rw [upd_same, cx.P, cx.w], i1, putD_nd D.nd, i2, i3.mono (Mo.write mu), fun y hy => ⟨(i4 y hy).1, (i4 y hy).2.mono (Mo.write mu)⟩⟩
  rw [cx.P, cx.w]
  exact go
theorem RH.putK (R : RH U ρ H s) {n : Nat} {p : Addr} {kvs : List (Key × MV)} {k : Key} {c : MV} {v : V} (hn : s[n]? = some (.dlf kvs)) (hp : ρ[n]? = some p) (rc : RV U.K ρ H c v) :
    ∃ ws, H p = some (.dK ws) ∧ ws.length = kvs.length ∧ Mo ρ H ρ (upd H p (.dK (putK ws k v))) ∧ RH U ρ (upd H p (.dK (L2.putK ws k v))) (s.set n (.dlf (putD k c kvs))) := by
  obtain ⟨q, hq, ws, e1, e2, e3, e4⟩ := R.at_ n _ hn
  rw [hp] at hq
  cases hq
  have mu : Mut (H p) := by rw [e1]; trivial
  obtain ⟨i1, i2⟩ := putK_rv (k := k) rc e2 e3 e4
  exact ⟨ws, e1, by have := congrArg List.length e2; simpa using this, Mo.write mu, R.write hp (List.getElem?_eq_some_iff.mp hn).1 mu ⟨_, upd_same, i1, putD_nd e3, i2.mono (Mo.write mu)⟩⟩
theorem set_any (cx : Ctx U X) : PSet X (L3s U) := by
  intro pins sh σ H o i v ov iv u Q I ro ri rv ⟨ρ, s, a, b, c, Q0, R, ra, rb, rc, h, cs⟩
  have un := cx.un
  cases a with
  | loc n =>
    obtain ⟨p, hp, rfl⟩ := ra
    unfold setW at h
    simp only at h
    split at h
    · rename_i xs e
      obtain ⟨vs, e1, r⟩ := R.lst e hp
      cases b with
      | int k =>
        obtain rfl : i = _ := rb
        simp only at h
        split at h
        · rename_i j ej
          have ⟨R', m⟩ := R.setL e hp (r.set j rc)
          exact set_list pins sh σ H _ _ v ov iv u Q I ro ri rv ⟨p, vs, k, j, rfl, rfl, e1, by rw [← r.length]; exact ej, cs _ ρ _ h m R'⟩
        · exact h.elim
      | _ => exact h.elim
    · rename_i kvs e
      split at h
      · rename_i k ek
        obtain ⟨ws, e1, e2, m, R'⟩ := R.putK (k := k) e hp rc
        obtain rfl := leaf_rv ek rb
        obtain rfl := ro
        exact d_setItem (by omega) I (DPut.k e1 (by rw [e2]; exact h.1)) ri rv fun s' I' => ⟨_, I', cs _ ρ _ h.2 m R'⟩
      · exact h.elim
    · rename_i kvs e
      split at h
      · rename_i k ek
        obtain ⟨xs, ws, D⟩ := R.dtp e hp
        obtain rfl := ro
        exact d_putT cx I R e hp D ek h.1 h.2.1 rb ri rc rv fun H' s' I' m R' => ⟨H', I', cs _ ρ _ h.2.2 m R'⟩
      · exact h.elim
    · exact h.elim
  | _ => exact h.elim
end
end Ly
namespace Ly
open PySem L2
section
variable {U : Wd} {X : Cx} {ρ : List Addr} {H : Hp} {s : MS}
/-! ### built-in functions -/
def LF (U : Wd) (f : BF) : List V → Hp → VK → Prop := fun xs H Q => ∃ ρ s vs Q0, RH U ρ H s ∧ RVs U.K ρ H vs xs ∧ bfW f vs s Q0 ∧ CV U ρ H Q0 Q
def bfV : BF → Value
  | .len => .builtin "len" | .min2 => .builtin "min" | .max2 => .builtin "max" | .min1 => .builtin "min" | .sum => .builtin "sum" | .all => .builtin "all" | .abs => .builtin "abs" | .sorted => .builtin "sorted" | .divmod => .builtin "divmod"
  | .int => .type "int" | .str => .type "str" | .list => .type "list" | .tuple => .type "tuple"
  | .lrange => .none | .tuprev => .none | .sortset => .none | .lenset => .none
theorem intsOf_eq : ∀ {xs : List MV} {ns : List Int}, intsOf xs = some ns → xs = ns.map MV.int
  | [], _, e => by cases e; rfl
  | x :: r, ns, e => by
    cases x with
    | int i =>
      unfold intsOf at e
      cases h : intsOf r with
      | none => rw [h] at e; cases e
      | some ms =>
        rw [h] at e
        cases e
        rw [intsOf_eq h]
        rfl
    | _ => cases e
theorem intsOf_map : ∀ ns : List Int, intsOf (ns.map MV.int) = some ns
  | [] => rfl
  | n :: r => by
    show (match intsOf (r.map MV.int) with
      | some ns => some (n :: ns)
      | none => none) = _
    rw [intsOf_map r]
theorem blsOf_eq : ∀ {xs : List MV} {ns : List Bool}, blsOf xs = some ns → xs = ns.map MV.bl
  | [], _, e => by cases e; rfl
  | x :: r, ns, e => by
    cases x with
    | bl i =>
      unfold blsOf at e
      cases h : blsOf r with
      | none => rw [h] at e; cases e
      | some ms =>
        rw [h] at e
        cases e
        rw [blsOf_eq h]
        rfl
    | _ => cases e
theorem blsOf_map : ∀ ns : List Bool, blsOf (ns.map MV.bl) = some ns
  | [] => rfl
  | n :: r => by
    show (match blsOf (r.map MV.bl) with
      | some ns => some (n :: ns)
      | none => none) = _
    rw [blsOf_map r]
theorem rv_ints : ∀ {ns : List Int} {vs : List V}, RVs U.K ρ H (ns.map MV.int) vs → vs = ns.map V.int
  | [], _, h => h
  | n :: r, _, ⟨v, w, e, h1, h2⟩ => by rw [e, rv_ints h2, show v = _ from h1]; rfl
theorem ints_rv : ∀ ns : List Int, RVs U.K ρ H (ns.map MV.int) (ns.map V.int)
  | [] => rfl
  | n :: r => ⟨_, _, rfl, rfl, ints_rv r⟩
theorem rv_bls : ∀ {ns : List Bool} {vs : List V}, RVs U.K ρ H (ns.map MV.bl) vs → vs = ns.map V.bl
  | [], _, h => h
  | n :: r, _, ⟨v, w, e, h1, h2⟩ => by rw [e, rv_bls h2, show v = _ from h1]; rfl
/-- the sequence behind a value -/
theorem seq_rv (R : RH U ρ H s) {x : MV} {v : V} {xs : List MV} (e : seqOf x s = some xs) (r : RV U.K ρ H x v) : ∃ p vs, v = .ref p ∧ RVs U.K ρ H xs vs ∧ (SqL U.K H p vs ∨ (SqT U.K H p vs ∧ H p = some (.tup vs) ∧ x = .tup xs)) := by
  cases x with
  | loc n =>
    obtain ⟨p, hp, rfl⟩ := r
    unfold seqOf at e
    simp only at e
    split at e
    · rename_i ys e1
      cases e
      obtain ⟨vs, e2, r2⟩ := R.lst e1 hp
      exact ⟨p, vs, rfl, r2, .inl (SqL.of e2)⟩
    · cases e
  | tup ys =>
    cases e
    obtain ⟨p, vs, rfl, h1, r2⟩ := r
    exact ⟨p, vs, rfl, r2, .inr ⟨SqT.of h1, h1, rfl⟩⟩
  | flst ys =>
    cases e
    obtain ⟨p, vs, rfl, h1, r2⟩ := r
    exact ⟨p, vs, rfl, r2, .inl h1.seq⟩
  | _ => cases e
theorem rvs1 {x : MV} {vs : List V} (h : RVs U.K ρ H [x] vs) : ∃ v, vs = [v] ∧ RV U.K ρ H x v := by
  obtain ⟨v, r, rfl, h1, h2⟩ := h
  exact ⟨v, by rw [show r = [] from h2], h1⟩
theorem rvs2 {x y : MV} {vs : List V} (h : RVs U.K ρ H [x, y] vs) : ∃ v w, vs = [v, w] ∧ RV U.K ρ H x v ∧ RV U.K ρ H y w := by
  obtain ⟨v, r, rfl, h1, h2⟩ := h
  obtain ⟨w, rfl, h3⟩ := rvs1 h2
  exact ⟨v, w, rfl, h1, h3⟩
theorem bf_any (cx : Ctx U X) (f : BF) (hf : bfV f ≠ .none) (hs : f ≠ .sorted) : CallR X (bfV f) (LF U f) := by
  intro pins sh σ H xs us Q I rx ⟨ρ, s, vs, Q0, R, rv, h, c⟩
  have cc := cx.calm
  cases f <;> first | exact absurd rfl hf | exact absurd rfl hs | skip
  · -- len
    cases vs with
    | nil => exact False.elim h
    | cons x r =>
      cases r with
      | cons _ _ => exact False.elim h
      | nil =>
        obtain ⟨v, rfl, r1⟩ := rvs1 rv
        have go : ∀ ys, seqOf x s = some ys → Q0 (.int (ys.length : Nat)) s → wpAny (model X.prog X.w) X.A (call (bfV .len) us) (EP X pins σ Q) X.xe sh := by
          intro ys e q
          obtain ⟨p, ws, rfl, r2, r3⟩ := seq_rv R e r1
          refine call_len_seq pins sh σ H _ us Q I rx ⟨p, ws, rfl, ?_, ?_⟩
          · rw [cx.K]
            rcases r3 with r3 | r3
            · exact .inl r3
            · exact .inr r3.1
          · rw [← r2.length]
            exact c.same R q rfl
        unfold bfW at h
        simp only at h
        cases x with
        | str z =>
          obtain rfl : v = _ := r1
          exact call_len_str pins sh σ H _ us Q I rx ⟨z, rfl, h.1, c.same R h.2 rfl⟩
        | _ =>
          simp only at h
          split at h
          · rename_i ys e
            exact go ys e h
          · exact h.elim
  · -- min2
    unfold bfW at h
    split at h <;> first | contradiction | skip
    obtain ⟨v, w, rfl, r1, r2⟩ := rvs2 rv
    obtain rfl : v = _ := r1
    obtain rfl : w = _ := r2
    exact call_min2 cc pins sh σ H _ us Q I rx ⟨_, _, rfl, c.same R h rfl⟩
  · unfold bfW at h
    split at h <;> first | contradiction | skip
    obtain ⟨v, w, rfl, r1, r2⟩ := rvs2 rv
    obtain rfl : v = _ := r1
    obtain rfl : w = _ := r2
    exact call_max2 cc pins sh σ H _ us Q I rx ⟨_, _, rfl, c.same R h rfl⟩
  · unfold bfW at h
    split at h <;> first | contradiction | skip
    rename_i n e1 e2
    obtain ⟨v, rfl, r1⟩ := rvs1 rv
    obtain ⟨p, hp, rfl⟩ := r1
    split at h
    · rename_i ys e
      split at h
      · rename_i ns e3
        obtain ⟨ws, e4, r4⟩ := R.lst e hp
        rw [intsOf_eq e3] at r4
        refine cr_min cc pins sh σ H _ us Q I rx ⟨p, ns, rfl, ?_, h.1, fun m h1 h2 => c.same R (h.2 m h1 h2) rfl⟩
        rw [← rv_ints r4]
        exact SqL.of e4
      · exact h.elim
    · exact h.elim
  · unfold bfW at h
    split at h <;> first | contradiction | skip
    rename_i n e1 e2
    obtain ⟨v, rfl, r1⟩ := rvs1 rv
    obtain ⟨p, hp, rfl⟩ := r1
    split at h
    · rename_i ys e
      split at h
      · rename_i ns e3
        obtain ⟨ws, e4, r4⟩ := R.lst e hp
        rw [intsOf_eq e3] at r4
        refine cr_sum cc pins sh σ H _ us Q I rx ⟨p, ns, rfl, ?_, c.same R h rfl⟩
        rw [← rv_ints r4]
        exact SqL.of e4
      · exact h.elim
    · exact h.elim
  · unfold bfW at h
    split at h <;> first | contradiction | skip
    rename_i n e1 e2
    obtain ⟨v, rfl, r1⟩ := rvs1 rv
    obtain ⟨p, hp, rfl⟩ := r1
    split at h
    · rename_i ys e
      split at h
      · rename_i ns e3
        obtain ⟨ws, e4, r4⟩ := R.lst e hp
        rw [blsOf_eq e3] at r4
        refine cr_all cc pins sh σ H _ us Q I rx ⟨p, ns, rfl, ?_, c.same R h rfl⟩
        rw [← rv_bls r4]
        exact SqL.of e4
      · exact h.elim
    · exact h.elim
  · unfold bfW at h
    split at h <;> first | contradiction | skip
    obtain ⟨v, rfl, r1⟩ := rvs1 rv
    obtain rfl : v = _ := r1
    exact call_abs pins sh σ H _ us Q I rx ⟨_, rfl, c.same R h rfl⟩
  · -- int
    unfold bfW at h
    split at h <;> first | contradiction | skip
    · obtain ⟨v, rfl, r1⟩ := rvs1 rv
      obtain rfl : v = _ := r1
      exact call_int1 pins sh σ H _ us Q I rx (.inl ⟨_, rfl, c.same R h rfl⟩)
    · obtain ⟨v, rfl, r1⟩ := rvs1 rv
      obtain rfl : v = _ := r1
      exact call_int1 pins sh σ H _ us Q I rx (.inr ⟨_, rfl, c.same R h rfl⟩)
    · obtain ⟨v, rfl, r1⟩ := rvs1 rv
      obtain rfl : v = _ := r1
      split at h
      · rename_i n e
        exact call_int_str pins sh σ H _ us Q I rx ⟨_, n, rfl, e, h.1, c.same R h.2 rfl⟩
      · exact h.elim
  · unfold bfW at h
    split at h <;> first | contradiction | skip
    · obtain ⟨v, rfl, r1⟩ := rvs1 rv
      obtain rfl : v = _ := r1
      exact call_str_int pins sh σ H _ us Q I rx ⟨_, rfl, h.1, c.same R h.2 rfl⟩
    · obtain ⟨v, rfl, r1⟩ := rvs1 rv
      obtain rfl : v = _ := r1
      exact SkE.call_str_str pins sh σ H _ us Q I rx ⟨_, rfl, c.same R h rfl⟩
    · obtain ⟨v, rfl, r1⟩ := rvs1 rv
      obtain rfl : v = _ := r1
      cases rx with
      | cons r1 rx =>
        cases rx
        obtain rfl : _ = Value.none := r1
        exact PySem.P.str_of_none ⟨.str "None", H, I.tok _, ⟨_, rfl⟩, c.same R h rfl⟩
  · -- list
    unfold bfW at h
    split at h <;> first | contradiction | skip
    rename_i x e1 e2
    obtain ⟨v, rfl, r1⟩ := rvs1 rv
    split at h
    · rename_i ys e
      obtain ⟨p, ws, rfl, r2, r3⟩ := seq_rv R e r1
      refine call_list_of pins sh σ H _ us Q I rx ⟨p, ws, rfl, ?_, fun l hl => c.newL R h hl r2⟩
      rw [cx.K]
      rcases r3 with r3 | r3
      · exact .inl r3
      · exact .inr r3.1
    · exact h.elim
  · unfold bfW at h
    split at h <;> first | contradiction | skip
    rename_i x e1 e2
    obtain ⟨v, rfl, r1⟩ := rvs1 rv
    split at h
    · rename_i ys e
      obtain ⟨p, ws, rfl, r2, r3⟩ := seq_rv R e r1
      refine call_tuple_of pins sh σ H _ us Q I rx ⟨p, ws, rfl, ?_⟩
      rw [cx.K]
      rcases r3 with r3 | r3
      · exact .inl ⟨r3, fun l hl => c.newT R h hl r2⟩
      · exact .inr ⟨r3.1, c.same R h ⟨p, ws, rfl, r3.2.1, r2⟩⟩
    · exact h.elim
  · unfold bfW at h
    split at h <;> first | contradiction | skip
    obtain ⟨v, w, rfl, r1, r2⟩ := rvs2 rv
    obtain rfl : v = _ := r1
    obtain rfl : w = _ := r2
    exact call_divmod pins sh σ H _ us Q I rx ⟨_, _, rfl, h.1, fun p hp => c.newT R h.2 hp ⟨_, _, rfl, rfl, _, _, rfl, rfl, rfl⟩⟩
/-! ### built-in methods -/
def LM (U : Wd) (m : BM) : V → List V → Hp → VK → Prop := fun x xs H Q => ∃ ρ s a vs Q0, RH U ρ H s ∧ RV U.K ρ H a x ∧ RVs U.K ρ H vs xs ∧ bmW m a vs s Q0 ∧ CV U ρ H Q0 Q
/-- type and name of a method, by what the receiver is -/
def bmId (m : BM) (T : String) : String := T ++ "." ++ bmN m
theorem CV.setL {Q0 : QV} {Q : VK} {n : Nat} {p : Addr} {xs ys : List MV} {ws : List V} {v : MV} {x : V} (c : CV U ρ H Q0 Q) (R : RH U ρ H s) (hs : s[n]? = some (.lst xs)) (hp : ρ[n]? = some p) (r : RVs U.K ρ H ys ws) (q : Q0 v (s.set n (.lst ys))) (rx : RV U.K ρ H v x) : Q x (upd H p (.lst ws)) :=
  let ⟨R', m⟩ := R.setL hs hp r
  c _ _ ρ _ _ q m R' (rx.mono m)
theorem all_id {α : Type} {P : α → Prop} (h : ∀ a, P a) (a : α) : P a := h a
theorem mt_any (cx : Ctx U X) (m : BM) (hm : m ≠ .get ∧ m ≠ .setdefault ∧ m ≠ .lkeys ∧ m ≠ .join ∧ m ≠ .split ∧ m ≠ .startswith ∧ m ≠ .partition ∧ m ≠ .isdigit) : MtR X (bmId m "list") (LM U m) := by
  intro pins sh σ H x xs v us Q I rx rxs ⟨ρ, s, a, vs, Q0, R, ra, rv, h, c⟩
  obtain ⟨m1, m2, m3, m4, m5, m6, m7, m8⟩ := hm
  cases m <;> first | contradiction | skip
  · -- append
    unfold bmW at h
    split at h <;> first | contradiction | skip
    obtain ⟨p, hp, rfl⟩ := ra
    obtain ⟨w, rfl, r1⟩ := rvs1 rv
    split at h
    · rename_i ys e
      obtain ⟨ws, e1, r⟩ := R.lst e hp
      exact mt_append pins sh σ H _ _ v us Q I rx rxs ⟨p, ws, w, rfl, rfl, e1, by rw [← r.length]; exact h.1, c.setL R e hp (r.append (RVs.one r1)) h.2 rfl⟩
    · exact h.elim
  · unfold bmW at h
    split at h <;> first | contradiction | skip
    obtain ⟨p, hp, rfl⟩ := ra
    obtain ⟨w, rfl, r1⟩ := rvs1 rv
    obtain ⟨q, hq, rfl⟩ := r1
    split at h
    · rename_i ys zs e e'
      obtain ⟨ws, e1, r⟩ := R.lst e hp
      obtain ⟨ws', e1', r'⟩ := R.lst e' hq
      exact mt_extend pins sh σ H _ _ v us Q I rx rxs ⟨p, q, ws, ws', rfl, rfl, e1, e1', by rw [← r.length, ← r'.length]; exact h.1, c.setL R e hp (r.append r') h.2 rfl⟩
    · exact h.elim
  · unfold bmW at h
    split at h <;> first | contradiction | skip
    obtain ⟨p, hp, rfl⟩ := ra
    obtain rfl : xs = [] := rv
    split at h
    · rename_i ys e
      split at h
      · rename_i y ey
        obtain ⟨ws, e1, r⟩ := R.lst e hp
        obtain ⟨w, ew, rw'⟩ := r.get ey
        exact mt_pop pins sh σ H _ _ v us Q I rx rxs ⟨p, ws, w, rfl, rfl, e1, by rw [← r.length]; exact ew, c.setL R e hp r.dropLast h rw'⟩
      · exact h.elim
    · exact h.elim
  · unfold bmW at h
    split at h <;> first | contradiction | skip
    obtain ⟨p, hp, rfl⟩ := ra
    obtain ⟨w, rfl, r1⟩ := rvs1 rv
    obtain rfl : w = _ := r1
    split at h
    · rename_i ys e
      obtain ⟨rfl, h⟩ := h
      split at h
      · rename_i y r0
        obtain ⟨ws, e1, r⟩ := R.lst e hp
        obtain ⟨w, w2, rfl, g1, g2⟩ := r
        refine mt_popAt pins sh σ H _ _ v us Q I rx rxs ⟨p, w :: w2, 0, 0, w, rfl, rfl, e1, by decide, by decide, ?_, rfl, ?_⟩
        · rw [List.length_cons]
          unfold seqIndex?
          simp
        · rw [List.eraseIdx_cons_zero]
          exact c.setL R e hp g2 h g1
      · exact h.elim
    · exact h.elim
  · unfold bmW at h
    split at h <;> first | contradiction | skip
    obtain ⟨p, hp, rfl⟩ := ra
    obtain rfl : xs = [] := rv
    split at h
    · rename_i ys e
      obtain ⟨ws, e1, r⟩ := R.lst e hp
      exact mt_clear pins sh σ H _ _ v us Q I rx rxs ⟨p, ws, rfl, rfl, e1, c.setL R e hp (ys := []) (ws := []) rfl h rfl⟩
    · exact h.elim
  · unfold bmW at h
    split at h <;> first | contradiction | skip
    obtain ⟨p, hp, rfl⟩ := ra
    obtain ⟨w, rfl, r1⟩ := rvs1 rv
    split at h
    · rename_i ys e
      rcases h with ⟨f1, f2, j, z, ez, eq, no, q⟩ | ⟨d, ds, j, z, h1, h2, h3, h4, h5, h6, h7, q⟩
      rotate_left
      · obtain ⟨ws, e1, r⟩ := R.lst e hp
        exact mt_indexD (by have := cx.un; omega) pins sh σ H _ _ v us Q I rx rxs ⟨p, w, d, ds, j, z, rfl, rfl, .lst (SqL.of e1) (by rw [cx.K]; exact Dats.dp R ds _ ws h2 r), by rw [cx.K]; exact Dat.dp R d _ w h1 r1, h3, h4, h5, h6, h7, c.same R q rfl⟩
      obtain ⟨ws, e1, r⟩ := R.lst e hp
      obtain ⟨z', ez', rz⟩ := r.get ez
      have fz : flat z = true := List.all_eq_true.mp f2 z (List.mem_of_getElem? ez)
      refine mt_index pins sh σ H _ _ v us Q I rx rxs ⟨p, ws, w, j, z', rfl, rfl, SqL.of e1, flat_rv f1 r1, flat_rvs f2 r, ez', by rw [eqF_rv fz f1 rz r1]; exact eq, fun k z2 hk e2 => ?_, c.same R q rfl⟩
      obtain ⟨z3, e3, r3⟩ := r.getV e2
      have f3 : flat z3 = true := List.all_eq_true.mp f2 z3 (List.mem_of_getElem? e3)
      rw [eqF_rv f3 f1 r3 r1]
      exact no k z3 hk e3
    · exact h.elim
theorem strsOf_eq : ∀ {xs : List MV} {ns : List Str}, strsOf xs = some ns → xs = ns.map MV.str
  | [], ns, h => by
    cases h
    rfl
  | x :: xs, ns, h => by
    unfold strsOf at h
    split at h
    · rename_i e
      cases e
    · rename_i i r e
      cases e
      split at h
      · rename_i ms e2
        cases h
        rw [strsOf_eq e2]
        rfl
      · cases h
    · cases h
theorem strsOf_map : ∀ ns : List Str, strsOf (ns.map MV.str) = some ns
  | [] => rfl
  | x :: r => by
    show (match strsOf (r.map MV.str) with
      | some ns => some (x :: ns)
      | none => none) = _
    rw [strsOf_map r]
theorem rv_strs : ∀ {ns : List Str} {vs : List V}, RVs U.K ρ H (ns.map MV.str) vs → vs = ns.map V.str
  | [], _, h => h
  | n :: ns, _, ⟨v, w, e, r1, r2⟩ => by
    subst e
    rw [show v = V.str n from r1, rv_strs r2]
    rfl
theorem strs_rv : ∀ ns : List Str, RVs U.K ρ H (ns.map MV.str) (ns.map V.str)
  | [] => rfl
  | n :: ns => ⟨_, _, rfl, rfl, strs_rv ns⟩
theorem mt_any_str (cx : Ctx U X) (m : BM) (hm : m = .join ∨ m = .split ∨ m = .startswith ∨ m = .partition) : MtR X (bmId m "str") (LM U m) := by
  intro pins sh σ H x xs v us Q I rx rxs ⟨ρ, s, a, vs, Q0, R, ra, rv, h, c⟩
  rcases hm with rfl | rfl | rfl | rfl
  · unfold bmW at h
    split at h <;> first | contradiction | skip
    obtain rfl : x = _ := ra
    obtain ⟨w, rfl, r1⟩ := rvs1 rv
    obtain ⟨p, hp, rfl⟩ := r1
    split at h
    · rename_i ys e
      split at h
      · rename_i zs ez
        obtain ⟨ws, e1, r⟩ := R.lst e hp
        rw [strsOf_eq ez] at r
        rw [rv_strs r] at e1
        exact mt_join pins sh σ H _ _ v us Q I rx rxs ⟨_, p, zs, rfl, rfl, .inl (SqL.of e1), h.1, c.same R h.2 rfl⟩
      · exact h.elim
    · exact h.elim
  · unfold bmW at h
    split at h <;> first | contradiction | skip
    obtain rfl : x = _ := ra
    obtain ⟨w, rfl, r1⟩ := rvs1 rv
    obtain rfl : w = _ := r1
    exact mt_split pins sh σ H _ _ v us Q I rx rxs ⟨_, _, rfl, rfl, h.1, h.2.1, fun p hp => c.newL R h.2.2 hp (strs_rv _)⟩
  · unfold bmW at h
    split at h <;> first | contradiction | skip
    obtain rfl : x = _ := ra
    obtain ⟨w, rfl, r1⟩ := rvs1 rv
    obtain rfl : w = _ := r1
    exact mt_startswith pins sh σ H _ _ v us Q I rx rxs ⟨_, _, rfl, rfl, c.same R h rfl⟩
  · unfold bmW at h
    split at h <;> first | contradiction | skip
    obtain rfl : x = _ := ra
    obtain ⟨w, rfl, r1⟩ := rvs1 rv
    obtain rfl : w = _ := r1
    exact mt_partition pins sh σ H _ _ v us Q I rx rxs ⟨_, _, rfl, rfl, h.1, h.2.1, fun p hp => c.newT R h.2.2 hp ⟨_, _, rfl, rfl, _, _, rfl, rfl, _, _, rfl, rfl, rfl⟩⟩
/-- dict.get by values -/
theorem d_get_any (cx : Ctx U X) {pins : List (Addr × Obj)} {sh : Shared} {σ : St} {H : Hp} {x : V} {xs : List V} {v : Value} {us : List Value} {Q : VK} (I : Inv X pins σ H sh) (rx : RelV x v) (rxs : Vals xs us) (h : LM U .get x xs H Q) :
    wpAny (model X.prog X.w) X.A (call (.builtin "dict.get") (v :: us)) (EP X pins σ Q) X.xe sh := by
  obtain ⟨ρ, s, a, vs, Q0, R, ra, rv, h, c⟩ := h
  have un := cx.un
  unfold bmW at h
  split at h <;> first | contradiction | skip
  obtain ⟨p, hp, rfl⟩ := ra
  obtain ⟨w1, w2, rfl, r1, r2⟩ := rvs2 rv
  obtain ⟨u1, u2, rfl, ru1, ru2⟩ := Vals.two rxs
  obtain rfl := rx
  split at h
  · rename_i kvs e
    split at h
    · rename_i k ek
      obtain ⟨ws, e1, e2, e3, e4⟩ := R.dK (.inl e) hp
      obtain ⟨f1, f2⟩ := valV_of (k := k) e2 e4
      refine d_get2 (o := valV ws k) (by omega) I (.inl ⟨ws, k, e1, leaf_rv ek r1, rfl⟩) ru1 ru2 fun w' s' I' rw' => ⟨_, H, I', rw', ?_⟩
      cases el : lkD k kvs with
      | none =>
        rw [el] at h
        rw [f2 el]
        exact c.same R h r2
      | some y =>
        rw [el] at h
        obtain ⟨yv, e5, r5⟩ := f1 y el
        rw [e5]
        exact c.same R h r5
    · exact h.elim
  · rename_i kvs e
    split at h
    · rename_i k ek
      obtain ⟨xs', ws, D⟩ := R.dtp e hp
      obtain ⟨ek', hr⟩ := tkey_ref ek r1
      obtain ⟨b', rfl, e2, hk⟩ := key_is (cx.ok I) ek' h.1 r1 ru1 hr
      obtain ⟨z, dd⟩ := D.at_ (cx.ok I)
      obtain ⟨f1, f2⟩ := atKey_of (k := k) D.keys D.vals D.rvs
      have h := h.2
      rw [cx.P, cx.w]
      refine getOr_keyed (kvs := pairsH xs') cx.room hk z ⟨xs', dd, rfl⟩ ?_
      rw [valueAt_pairsH]
      cases el : lkD k kvs with
      | none =>
        rw [el] at h
        rw [f2 el]
        exact ⟨w2, H, I.tok _, ru2, c.same R h r2⟩
      | some y =>
        rw [el] at h
        obtain ⟨p2, yv, e5, r5, r6⟩ := f1 y el
        rw [e5]
        exact ⟨yv, H, I.tok _, r5, c.same R h r6⟩
    · exact h.elim
  · exact h.elim
theorem d_setdefault_any (cx : Ctx U X) {pins : List (Addr × Obj)} {sh : Shared} {σ : St} {H : Hp} {x : V} {xs : List V} {v : Value} {us : List Value} {Q : VK} (I : Inv X pins σ H sh) (rx : RelV x v) (rxs : Vals xs us) (h : LM U .setdefault x xs H Q) :
    wpAny (model X.prog X.w) X.A (call (.builtin "dict.setdefault") (v :: us)) (EP X pins σ Q) X.xe sh := by
  obtain ⟨ρ, s, a, vs, Q0, R, ra, rv, h, c⟩ := h
  unfold bmW at h
  split at h <;> first | contradiction | skip
  obtain ⟨p, hp, rfl⟩ := ra
  obtain ⟨w1, w2, rfl, r1, r2⟩ := rvs2 rv
  obtain ⟨u1, u2, rfl, ru1, ru2⟩ := Vals.two rxs
  obtain rfl := rx
  split at h
  · rename_i kvs e
    split at h
    · rename_i k ek
      obtain ⟨q, hq, ws, e1, e2, e3, e4⟩ := R.at_ _ _ e
      rw [hp] at hq
      cases hq
      obtain ⟨f1, f2⟩ := valV_of (k := k) e2 e4
      have hlen : ws.length = kvs.length := by have := congrArg List.length e2; simpa using this
      obtain rfl := leaf_rv ek r1
      have hsz : ws.length ≤ sizeLine := (I.hok p _ e1).1
      obtain ⟨hz, h⟩ := h
      cases el : lkD k kvs with
      | some y =>
        rw [el] at h
        obtain ⟨yv, e5, r5⟩ := f1 y el
        exact d_setd I e1 ru1 ru2 (by rw [hlen]; exact hz) (fun v2 hv w' s4 I4 rw' => by
            rw [e5] at hv
            cases hv
            exact ⟨yv, H, I4, rw', c.same R h r5⟩) fun hn => by rw [e5] at hn; cases hn
      | none =>
        rw [el] at h
        obtain ⟨ws', g1, g2, m, R'⟩ := R.putK (k := k) e hp r2
        rw [e1] at g1
        cases g1
        exact d_setd I e1 ru1 ru2 (by rw [hlen]; exact hz) (fun v2 hv => by rw [f2 el] at hv; cases hv) fun hn w' s4 I4 rw' => ⟨w2, _, I4, rw', c _ _ ρ _ _ h m R' (r2.mono m)⟩
    · exact h.elim
  · exact h.elim
end
end Ly
/-! Lay, part E: expressions keep what they must meet. -/
namespace Ly
open PySem L2
open PyProof.Rows hiding St

/-! ### what a body leans on -/
def cV : MV → V
  | .non => .non
  | .bl b => .bl b
  | .int i => .int i
  | .str x => .str x
  | _ => .non
def isC : MV → Bool
  | .non | .bl _ | .int _ | .str _ => true
  | _ => false
/-- a def that keeps its promise -/
structure FnAt (U : Wd) (X : Cx) (k : Nat) (c m : Nat) (sp : MSp) (fa : Addr) : Prop where
  kp : PySem.W.keepIn X.K (.ref fa) = true
  fn : ∃ fd ps, FnOk X.prog X.w X.K X.mg X.base (L2.CX X.prog X.w) k fa fd ps (lift U sp) ∧ ∀ n, ∃ ds, Binds X.K fd ps ds ∧ Vals ((dflt c m n).map cV) ds
  dc : ∀ n, (dflt c m n).all isC = true
def bltN : List String := ["len", "min", "max", "sum", "all", "abs", "int", "str", "list", "tuple", "sorted", "divmod", "range", "reversed", "set", "enumerate", "isinstance", "bool"]
structure Good (U : Wd) (Γ : Prg) (X : Cx) (k : Nat) : Prop where
  cx : Ctx U X
  nd : X.N.Nodup
  room : Room (k + 1) X.A
  inj : (U.FL.map nmOf).Nodup
  blt : ∀ x ∈ bltN, X.mg (Str.ofString x) = none
  con : ∀ e ∈ constT, ∃ t, X.mg (nmOf e.1) = some (.str e.2 t)
  fn : ∀ f sp, Γ 0 f = some sp → ∃ fa, X.mg (nmOf f) = some (.ref fa) ∧ FnAt U X k 0 f sp fa
  mt : ∀ c m d sp, mres c m = some d → Γ d m = some sp → ∃ fa, Meth X.K (clA U.K c) (nmOf m) fa ∧ FnAt U X k d m sp fa
  mkc : ∀ c d sp, mres c iInit = some d → Γ d iInit = some sp → ∃ fa, X.mg (nmOf c) = some (.ref (clA U.K c)) ∧ Mk X.K (clA U.K c) fa ∧ ClsOk U c ∧ FnAt U X k d iInit sp fa
  cl : ∀ c m sp, Γ c m = some sp → c ≠ 0 → ∃ fa mc, X.mg (nmOf c) = some (.ref (clA U.K c)) ∧ ClX.CRead X.K (clA U.K c) mc ∧ PySem.W.findCls X.K (.ref (clA U.K c)) mc (nmOf m) = some (.val (.ref fa)) ∧ FnAt U X k c m sp fa
section
variable {U : Wd} {Γ : Prg} {X : Cx} {k : Nat} {W : WX} {ρ : List Addr} {H : Hp} {s : MS}
theorem Good.blk (g : Good U Γ X k) (sh : Shared) (H : Hp) (scope : Scope) (cenv : Env) (fp : List Addr) : Good U Γ (X.blk sh H scope cenv fp) k :=
  ⟨⟨g.cx.P, g.cx.w, g.cx.K, g.cx.calm, g.cx.un⟩, g.nd, g.room, g.inj, g.blt, g.con, fun f sp h => let ⟨fa, h1, h2⟩ := g.fn f sp h; ⟨fa, h1, h2.kp, h2.fn, h2.dc⟩,
    fun c m d sp h1 h2 => let ⟨fa, h3, h4⟩ := g.mt c m d sp h1 h2; ⟨fa, h3, h4.kp, h4.fn, h4.dc⟩, fun c d sp h1 h2 => let ⟨fa, h3, h4, h5, h6⟩ := g.mkc c d sp h1 h2; ⟨fa, h3, h4, h5, h6.kp, h6.fn, h6.dc⟩,
    fun c m sp h1 h0 => let ⟨fa, mc, h3, h4, h5, h6⟩ := g.cl c m sp h1 h0; ⟨fa, mc, h3, h4, h5, h6.kp, h6.fn, h6.dc⟩⟩
theorem Good.wish (g : Good U Γ X k) (pn : List (Addr × Obj)) (xe : Value → Shared → Prop) : Good U Γ (X.tr pn xe) k :=
  ⟨⟨g.cx.P, g.cx.w, g.cx.K, g.cx.calm, g.cx.un⟩, g.nd, g.room, g.inj, g.blt, g.con, fun f sp h => let ⟨fa, h1, h2⟩ := g.fn f sp h; ⟨fa, h1, h2.kp, h2.fn, h2.dc⟩,
    fun c m d sp h1 h2 => let ⟨fa, h3, h4⟩ := g.mt c m d sp h1 h2; ⟨fa, h3, h4.kp, h4.fn, h4.dc⟩, fun c d sp h1 h2 => let ⟨fa, h3, h4, h5, h6⟩ := g.mkc c d sp h1 h2; ⟨fa, h3, h4, h5, h6.kp, h6.fn, h6.dc⟩,
    fun c m sp h1 h0 => let ⟨fa, mc, h3, h4, h5, h6⟩ := g.cl c m sp h1 h0; ⟨fa, mc, h3, h4, h5, h6.kp, h6.fn, h6.dc⟩⟩
/-! ### rules, weakened -/
theorem _root_.L2.PE.imp {X : Cx} {e : Expr} {t t' : TE} (h : PE X e t) (hi : ∀ σ H Q, t' σ H Q → t σ H Q) : PE X e t' := ⟨fun pins s σ H Q I q => h.run pins s σ H Q I (hi σ H Q q)⟩
theorem _root_.L2.PT.imp {X : Cx} {e : Expr} {t t' : TT} (h : PT X e t) (hi : ∀ σ H Q, t' σ H Q → t σ H Q) : PT X e t' := ⟨fun pins s σ H Q I q => h.run pins s σ H Q I (hi σ H Q q)⟩
theorem _root_.L2.PA.imp {X : Cx} {e : List Expr} {t t' : TA} (h : PA X e t) (hi : ∀ σ H Q, t' σ H Q → t σ H Q) : PA X e t' := ⟨fun p pins s σ H Q I q => h.run p pins s σ H Q I (hi σ H Q q)⟩
theorem _root_.L2.PI.imp {X : Cx} {tg e : Expr} {t t' : TI} (h : PI X tg e t) (hi : ∀ σ H Q, t' σ H Q → t σ H Q) : PI X tg e t' := ⟨fun pins s σ H Q I q => h.run pins s σ H Q I (hi σ H Q q)⟩
/-! ### side conditions by the look -/
theorem star_of {e : Expr} (h : nost e = true) (es : List Expr) (env : Env) : starEach (e :: es) env = (false, eval e env) :: starEach es env := by
  cases e <;> first | (cases h; done) | rfl
theorem plain_of (pos : Pos) (env : Env) : ∀ {es : List Expr}, es.all nost = true → (backTo pos (starEach es env)).any (·.1) = false
  | [], _ => rfl
  | e :: es, h => by
    rw [List.all_cons, Bool.and_eq_true] at h
    rw [star_of h.1]
    show (false || (backTo pos (starEach es env)).any (·.1)) = false
    rw [plain_of pos env h.2]
    rfl
theorem base_of {o : Expr} (h : nc0 o = true) (m : Str) (env : Env) (w : Sem Value) : attributeBase o m env w = w := by
  cases o with
  | Call f es ks p =>
    cases es with
    | nil => cases h
    | cons e r => cases f <;> rfl
  | _ => rfl
theorem form_of {env : Env} {pos : Pos} {es : List Expr} (h : es.all nost = true) (hl : es.length < 20) : methodCallForm (es.length + ([] : List Keyword).length) (backTo pos (starEach es env)) (backToKw pos (keywordEach [] env)) = true := by
  have h1 : (backTo pos (starEach es env)).all (fun x => !x.1) = true := by
    have := plain_of pos env h
    rw [List.all_eq_not_any_not]
    simpa using this
  unfold methodCallForm
  rw [h1]
  simp [backToKw, keywordEach]
  omega
theorem mcall_of {o : Expr} {m : Str} {es : List Expr} {apos pos : Pos} {env : Env} (hb : nc0 o = true) (he : es.all nost = true) (hl : es.length < 20) (hp : (apos.endLine == pos.line) = true) :
    eval (.Call (.Attribute o m apos) es [] pos) env = (do
      let ov ← eval o env
      standAt apos.atName
      let (f, first) ← holding [ov] (getMethod ov m (plainOf o env))
      callWith pos f first (backTo pos (starEach es env)) (backToKw pos (keywordEach [] env))) := by
  have h0 : eval (.Call (.Attribute o m apos) es [] pos) env = (do
      let ov ← attributeBase o m env (eval o env)
      standAt apos.atName
      methodCall o m apos pos env ov (es.length + ([] : List Keyword).length) (backTo pos (starEach es env)) (backToKw pos (keywordEach [] env))) := by
    first
      | rfl
      | rw [eval]
  rw [h0, base_of hb]
  congr 1
  funext ov
  congr 1
  funext _
  exact mcall_line (form_of he hl) hp
theorem CVs.mono' {ρ ρ' : List Addr} {H H' : Hp} {Q0 : List MV → MS → Prop} {Q : List V → Hp → Prop} (m : Mo ρ H ρ' H') (h : CVs U ρ H Q0 Q) : CVs U ρ' H' Q0 Q := fun v s' ρ2 H2 x q m2 R r => h v s' ρ2 H2 x q (m.trans m2) R r
/-! ### side conditions of names -/
theorem vis_of {sc : Scope} {x : Str} (h : visB sc x = true) : Vis sc x ∧ (x == ("__debug__" : Str)) = false ∧ (x == ("__classdict__" : Str)) = false := by
  unfold visB at h
  simp only [Bool.and_eq_true, Bool.not_eq_true'] at h
  obtain ⟨⟨h1, h2⟩, h3⟩ := h
  refine ⟨?_, h2, h3⟩
  split at h1 <;> first | exact .inl (by assumption) | exact .inr (.inl (by assumption)) | exact .inr (.inr (by assumption)) | cases h1
theorem loc_of {sc : Scope} {x : Str} (h : locB sc x = true) : Loc sc x := by
  unfold locB at h
  split at h <;> first | exact .inl (by assumption) | exact .inr (by assumption) | cases h
theorem glo_of {x : Str} (h : gloB X.env.scope x = true) : Gl X x ∧ (x == ("__debug__" : Str)) = false ∧ x ≠ "__name__" := by
  unfold gloB at h
  simp only [Bool.and_eq_true, Bool.not_eq_true'] at h
  obtain ⟨⟨h1, h2⟩, h3⟩ := h
  refine ⟨?_, h2, fun e => ?_⟩
  · split at h1
    · assumption
    · cases h1
  · subst e
    cases h3
theorem nm_of {x : Str} {n : String} (h : isNm x n = true) : x = Str.ofString n := eq_of_beq h
theorem mark_of {op : CmpOp} {e : Expr} (h : nost e = true) : behindInMarks op e = false := by
  cases e <;> first | (cases h; done) | rfl
theorem plainix_of {e : Expr} (h : nost e = true) : PlainIx e := fun o i => by
  cases e <;> first | (cases h; done) | rfl
theorem fold_of {e : Expr} {env : Env} (h : nost e = true) (x : Value) : foldedSetIterable e env x = pure x := by
  cases e <;> first | (cases h; done) | rfl
theorem takes_no : Takes X (fun _ _ _ _ => False) := fun u s' ⟨_, _, _, _, _, _, _, _, _, _, _, _, _, _, _, _, z⟩ => z.elim
/-! ### constants, displays -/
theorem rvs_c : ∀ {xs : List MV}, xs.all isC = true → RVs U.K ρ H xs (xs.map cV)
  | [], _ => rfl
  | x :: xs, h => by
    rw [List.all_cons, Bool.and_eq_true] at h
    refine ⟨cV x, xs.map cV, rfl, ?_, rvs_c h.2⟩
    cases x <;> first | rfl | cases h.1
theorem RVs.app2 {xs ys : List MV} {vs ws : List V} (h : RVs U.K ρ H xs vs) (h2 : RVs U.K ρ H ys ws) : RVs U.K ρ H (xs ++ ys) (vs ++ ws) := h.append h2
section
variable {e a b c : Expr} {es : List Expr} {ea eb ec : E} {ees : Es} {pos p : Pos}
theorem lVar {i : Nat} {x : Str} (hN : X.N[i]? = some x) (hv : visB X.env.scope x = true) : PE X (.Name x pos) (LE U Γ W (.var i)) := by
  obtain ⟨h1, h2, h3⟩ := vis_of hv
  refine (pe_var (pos := pos) hN h1 h2 h3).imp fun σ H Q ⟨ρ, env, s, Q0, R0, R, E, h, c, cx⟩ => ?_
  unfold wpE at h
  split at h
  · rename_i v e
    obtain ⟨x', e1, r⟩ := E.at_ i v e
    exact ⟨x', e1, c.same R h r⟩
  · exact h.elim
theorem lCon {v : V} {mv : MV} {em : E} (hp : PE X e (tC v)) (hw : ∀ σ s Q R, wpE Γ em σ s Q R → Q mv s) (hr : ∀ ρ H, RV U.K ρ H mv v) : PE X e (LE U Γ W em) :=
  hp.imp fun σ H Q ⟨ρ, env, s, Q0, R0, R, E, h, c, cx⟩ => c.same R (hw _ _ _ _ h) (hr ρ H)
theorem lTup {x1} (ha : PA X es (LEs U Γ W ees)) : PE X (.Tuple es x1 pos) (LE U Γ W (.tup ees)) := by
  refine (pe_tup ha).imp fun σ H Q ⟨ρ, env, s, Q0, R0, R, E, h, c, cx⟩ => ?_
  unfold wpE at h
  exact ⟨ρ, env, s, _, R0, R, E, h, fun vs s1 ρ1 H1 xs q m R1 r => ⟨by rw [← r.length]; exact q.1, fun q1 hq => (c.mono m).newT R1 q.2 hq r⟩, cx⟩
theorem lLst (ha : PA X es (LEs U Γ W ees)) : PE X (.List es pos) (LE U Γ W (.lst ees)) := by
  refine (pe_lst ha).imp fun σ H Q ⟨ρ, env, s, Q0, R0, R, E, h, c, cx⟩ => ?_
  unfold wpE at h
  exact ⟨ρ, env, s, _, R0, R, E, h, fun vs s1 ρ1 H1 xs q m R1 r => ⟨by rw [← r.length]; exact q.1, fun q1 hq => (c.mono m).newL R1 q.2 hq r⟩, cx⟩
theorem CVs.mono {ρ ρ' : List Addr} {H H' : Hp} {Q0 : List MV → MS → Prop} {Q : List V → Hp → Prop} (m : Mo ρ H ρ' H') (h : CVs U ρ H Q0 Q) : CVs U ρ' H' Q0 Q := h.mono' m
/-- one, then another -/
theorem LE.two {σ : St} {H : Hp} {Q : V → V → Hp → Prop} {env : MEnv} {Q0 : MV → MV → MS → Prop} {R0 : QX} (R : RH U ρ H s) (E : RE U.K ρ H env σ) (h : wpE Γ ea env s (fun x s1 => wpE Γ eb env s1 (fun y s2 => Q0 x y s2) R0) R0)
    (cx : CXx U ρ H R0 (fun c d H' => W c d σ H')) (hq : ∀ x y s2 ρ2 H2 v w, Q0 x y s2 → Mo ρ H ρ2 H2 → RH U ρ2 H2 s2 → RV U.K ρ2 H2 x v → RV U.K ρ2 H2 y w → Q v w H2) :
    LE U Γ W ea σ H fun v H1 => LE U Γ W eb σ H1 fun w H2 => Q v w H2 :=
  ⟨ρ, env, s, _, R0, R, E, h, fun x s1 ρ1 H1 v q m1 R1 r1 => ⟨ρ1, env, s1, _, R0, R1, E.mono m1, q, fun y s2 ρ2 H2 w q2 m2 R2 r2 => hq x y s2 ρ2 H2 v w q2 (m1.trans m2) R2 (r1.mono m2) r2, cx.mono m1⟩, cx⟩
theorem lBin {o : BOp} {op : Operator} (ho : bopB o op = true) (ha : PE X a (LE U Γ W ea)) (hb : PE X b (LE U Γ W eb)) : PE X (.BinOp a op b pos) (LE U Γ W (.bin o ea eb)) := by
  refine (pe_op (op_bin (U := U) ho) ha hb).imp fun σ H Q ⟨ρ, env, s, Q0, R0, R, E, h, c, cx⟩ => ?_
  unfold wpE at h
  exact LE.two R E h cx fun x y s2 ρ2 H2 v w q m R2 r1 r2 => ⟨ρ2, s2, x, y, Q0, R2, r1, r2, q, c.mono m⟩
theorem lCmp0 (cx0 : Ctx U X) {o : COp} {op : CmpOp} (ho : copB o op = true) {σ : St} {H : Hp} {Q : VK} (hl : LE U Γ W (.cmp o ea eb) σ H Q) : tOp (L2c U (cmpW o)) (LE U Γ W ea) (LE U Γ W eb) σ H Q := by
  obtain ⟨ρ, env, s, Q0, R0, R, E, h, c, cx⟩ := hl
  unfold wpE at h
  exact LE.two R E h cx fun x y s2 ρ2 H2 v w q m R2 r1 r2 => ⟨ρ2, s2, x, y, Q0, R2, r1, r2, q, c.mono m⟩
theorem lCmp (cx0 : Ctx U X) {o : COp} {op : CmpOp} (ho : copB o op = true) (hb0 : nost b = true) (ha : PE X a (LE U Γ W ea)) (hb : PE X b (LE U Γ W eb)) : PE X (.Compare a [op] [b] pos) (LE U Γ W (.cmp o ea eb)) :=
  (pe_cmpR (op_anyL (U := U) cx0 ho) ha hb (mark_of hb0)).imp fun σ H Q h => lCmp0 cx0 ho h
theorem tCmp' (cx0 : Ctx U X) {o : COp} {op : CmpOp} (ho : copB o op = true) (hb0 : nost b = true) (ha : PE X a (LE U Γ W ea)) (hb : PE X b (LE U Γ W eb)) : PT X (.Compare a [op] [b] pos) (tB (LE U Γ W (.cmp o ea eb))) :=
  (pt_cmpR (op_anyL (U := U) cx0 ho) ha hb (mark_of hb0)).imp fun σ H Q h => lCmp0 cx0 ho h
theorem lChn0 {o o' : COp} {op op' : CmpOp} {σ : St} {H : Hp} {Q : VK} (hl : LE U Γ W (.chn o o' ea eb ec) σ H Q) : tChain (L2c U (cmpW o)) (L2c U (cmpW o')) (LE U Γ W ea) (LE U Γ W eb) (LE U Γ W ec) σ H Q := by
  obtain ⟨ρ, env, s, Q0, R0, R, E, h, c, cx⟩ := hl
  unfold wpE at h
  refine LE.two R E h cx fun x y s2 ρ2 H2 v w q m R2 r1 r2 => ⟨ρ2, s2, x, y, fun z s3 => ∃ k, z = .bl k ∧ s3 = s2 ∧ (if k = true then wpE Γ ec env s2 (fun z s3 => cmpW o' y z s3 fun k2 => Q0 (.bl k2) s3) R0 else Q0 (.bl false) s2), R2, r1, r2, ?_, ?_⟩
  · have mono : ∀ (f : Bool → Prop) (g : Bool → Prop), (∀ k, f k → g k) → cmpW o x y s2 f → cmpW o x y s2 g := by
      intro f g hfg hc
      have e1 : ∀ (f g : Bool → Prop), (∀ k, f k → g k) → eqW x y s2 f → eqW x y s2 g := by
        intro f g hfg hc
        unfold eqW at hc ⊢
        split at hc <;> first | exact hfg _ hc | skip
        all_goals (obtain ⟨d, e, h1, h2, h3, h4, h5⟩ := hc; exact ⟨d, e, h1, h2, h3, h4, hfg _ h5⟩)
      have e2 : ∀ (f g : Bool → Prop), (∀ k, f k → g k) → inW x y s2 f → inW x y s2 g := by
        intro f g hfg hc
        unfold inW at hc ⊢
        split at hc
        · exact ⟨hc.1, hc.2.1, hfg _ hc.2.2⟩
        · split at hc
          · rcases hc with hc | ⟨d, ds, h1, h2, h3, h4, h5⟩
            · exact .inl ⟨hc.1, hc.2.1, hfg _ hc.2.2⟩
            · exact .inr ⟨d, ds, h1, h2, h3, h4, hfg _ h5⟩
          · split at hc
            · exact hfg _ hc
            · exact hc.elim
          · split at hc
            · exact hfg _ hc
            · exact hc.elim
          · split at hc
            · exact ⟨hc.1, hfg _ hc.2⟩
            · exact hc.elim
          · exact hc.elim
        · split at hc
          · exact hfg _ hc
          · exact hc.elim
        · exact hc.elim
      unfold cmpW at hc ⊢
      cases o <;> simp only at hc ⊢
      case eq => exact e1 _ _ hfg hc
      case ne => exact e1 _ _ (fun k z => hfg _ z) hc
      case isin => exact e2 _ _ hfg hc
      case notin => exact e2 _ _ (fun k z => hfg _ z) hc
      all_goals (repeat' split at hc) <;> first | exact hfg _ hc | exact hc.elim
    exact mono _ _ (fun k z => ⟨k, rfl, rfl, z⟩) q
  · rintro z s3 ρ3 H3 v3 ⟨k, rfl, rfl, q3⟩ m3 R3 r3
    refine ⟨k, r3, ?_⟩
    cases k with
    | true => exact ⟨ρ3, env, _, _, R0, R3, (E.mono m).mono m3, q3, fun z s4 ρ4 H4 u q4 m4 R4 r4 => ⟨ρ4, s4, y, z, Q0, R4, (r2.mono m3).mono m4, r4, q4, c.mono ((m.trans m3).trans m4)⟩, cx.mono (m.trans m3)⟩
    | false => exact (c.mono (m.trans m3)).same R3 q3 rfl
theorem lChn (cx0 : Ctx U X) {o o' : COp} {op op' : CmpOp} (ho : copB o op = true) (ho' : copB o' op' = true) (hc0 : nost c = true) (ha : PE X a (LE U Γ W ea)) (hb : PE X b (LE U Γ W eb)) (hc : PE X c (LE U Γ W ec)) :
    PE X (.Compare a [op, op'] [b, c] pos) (LE U Γ W (.chn o o' ea eb ec)) :=
  (pe_chain (op_anyL (U := U) cx0 ho) (op_anyL (U := U) cx0 ho') ha hb hc (mark_of hc0)).imp fun σ H Q h => lChn0 (op := op) (op' := op') h
theorem tChn (cx0 : Ctx U X) {o o' : COp} {op op' : CmpOp} (ho : copB o op = true) (ho' : copB o' op' = true) (hc0 : nost c = true) (ha : PE X a (LE U Γ W ea)) (hb : PE X b (LE U Γ W eb)) (hc : PE X c (LE U Γ W ec)) :
    PT X (.Compare a [op, op'] [b, c] pos) (tB (LE U Γ W (.chn o o' ea eb ec))) :=
  (pt_chain (op_anyL (U := U) cx0 ho) (op_anyL (U := U) cx0 ho') ha hb hc (mark_of hc0)).imp fun σ H Q h => lChn0 (op := op) (op' := op') h
/-- a value that must be a bool -/
theorem LE.bool {σ : St} {H : Hp} {env : MEnv} {Q0 : QV} {R0 : QX} {F : Bool → MS → Prop} {Q : VK} (R : RH U ρ H s) (E : RE U.K ρ H env σ) (h : wpE Γ ea env s Q0 R0) (hQ : ∀ x s1, Q0 x s1 → ∃ k, x = .bl k ∧ F k s1)
    (cx : CXx U ρ H R0 (fun c d H' => W c d σ H')) (hq : ∀ k s1 ρ1 H1, F k s1 → Mo ρ H ρ1 H1 → RH U ρ1 H1 s1 → Q (.bl k) H1) : LE U Γ W ea σ H Q :=
  ⟨ρ, env, s, _, R0, R, E, h, fun x s1 ρ1 H1 v q m1 R1 r1 => by
    obtain ⟨k, rfl, f⟩ := hQ x s1 q
    obtain rfl : v = _ := r1
    exact hq k s1 ρ1 H1 f m1 R1, cx⟩
theorem bl_and {A B : MS → Prop} {x : MV} {s1 : MS} (q : match x with
    | .bl true => A s1
    | .bl false => B s1
    | _ => False) : ∃ k, x = .bl k ∧ (fun (k : Bool) s1 => if k = true then A s1 else B s1) k s1 := by
  cases x with
  | bl k => cases k <;> exact ⟨_, rfl, by simpa using q⟩
  | _ => exact q.elim
theorem bl_un {A : Bool → MS → Prop} {x : MV} {s1 : MS} (q : match x with
    | .bl k => A k s1
    | _ => False) : ∃ k, x = .bl k ∧ A k s1 := by
  cases x with
  | bl k => exact ⟨_, rfl, q⟩
  | _ => exact q.elim
theorem lAnd0 {σ : St} {H : Hp} {Q : VK} (hl : LE U Γ W (.and_ ea eb) σ H Q) : tAndV (LE U Γ W ea) (LE U Γ W eb) σ H Q := by
  obtain ⟨ρ, env, s, Q0, R0, R, E, h, c, cx⟩ := hl
  unfold wpE at h
  refine LE.bool R E h (fun x s1 q => bl_and (A := fun s1 => wpE Γ eb env s1 Q0 R0) (B := fun s1 => Q0 (.bl false) s1) q) cx fun k s1 ρ1 H1 f m R1 => ⟨k, rfl, ?_⟩
  cases k with
  | true => exact ⟨ρ1, env, s1, Q0, R0, R1, E.mono m, by simpa using f, c.mono m, cx.mono m⟩
  | false => exact (c.mono m).same (v := .bl false) R1 (by simpa using f) rfl
theorem lOr0 {σ : St} {H : Hp} {Q : VK} (hl : LE U Γ W (.or_ ea eb) σ H Q) : tOrV (LE U Γ W ea) (LE U Γ W eb) σ H Q := by
  obtain ⟨ρ, env, s, Q0, R0, R, E, h, c, cx⟩ := hl
  unfold wpE at h
  refine LE.bool R E h (fun x s1 q => bl_and (A := fun s1 => Q0 (.bl true) s1) (B := fun s1 => wpE Γ eb env s1 Q0 R0) q) cx fun k s1 ρ1 H1 f m R1 => ⟨k, rfl, ?_⟩
  cases k with
  | false => exact ⟨ρ1, env, s1, Q0, R0, R1, E.mono m, by simpa using f, c.mono m, cx.mono m⟩
  | true => exact (c.mono m).same (v := .bl true) R1 (by simpa using f) rfl
theorem lNot0 {σ : St} {H : Hp} {Q : VK} (hl : LE U Γ W (.not_ ea) σ H Q) : tNotV (LE U Γ W ea) σ H Q := by
  obtain ⟨ρ, env, s, Q0, R0, R, E, h, c, cx⟩ := hl
  unfold wpE at h
  exact LE.bool R E h (fun x s1 q => bl_un (A := fun k s1 => Q0 (.bl (!k)) s1) q) cx fun k s1 ρ1 H1 f m R1 => ⟨k, rfl, (c.mono m).same R1 f rfl⟩
theorem lNot (ha : PE X a (LE U Γ W ea)) : PE X (.UnaryOp .Not a pos) (LE U Γ W (.not_ ea)) := (pe_not ha).imp fun σ H Q h => lNot0 h
theorem tNot' (ha : PT X a (tB (LE U Γ W ea))) : PT X (.UnaryOp .Not a pos) (tB (LE U Γ W (.not_ ea))) :=
  (pt_not ha).imp fun σ H Q h => by
    have := lNot0 h
    obtain ⟨ρ, env, s, Q0, R0, R, E, h, c, cx⟩ := this
    exact ⟨ρ, env, s, Q0, R0, R, E, h, fun v s1 ρ1 H1 x q m R1 r => by
      obtain ⟨k, e, k2, e2, z⟩ := c v s1 ρ1 H1 x q m R1 r
      cases e2
      exact ⟨k, e, z⟩, cx⟩
theorem tB_and {ta tb : TE} {σ : St} {H : Hp} {Q : Bool → Hp → Prop} (h : ta σ H fun x H1 => ∃ c, x = .bl c ∧ if c = true then tB tb σ H1 Q else Q false H1) : tAnd (tB ta) (tB tb) σ H Q := h
theorem LE.mono {σ : St} {H : Hp} {Q Q' : VK} (h : LE U Γ W ea σ H Q) (hq : ∀ x H1, Q x H1 → Q' x H1) : LE U Γ W ea σ H Q' :=
  let ⟨ρ, env, s, Q0, R0, R, E, h, c, cx⟩ := h
  ⟨ρ, env, s, Q0, R0, R, E, h, fun v s1 ρ1 H1 x q m R1 r => hq _ _ (c v s1 ρ1 H1 x q m R1 r), cx⟩
theorem tAndL {σ : St} {H : Hp} {Q : Bool → Hp → Prop} (h : tB (LE U Γ W (.and_ ea eb)) σ H Q) : tAnd (tB (LE U Γ W ea)) (tB (LE U Γ W eb)) σ H Q := by
  refine LE.mono (lAnd0 h) fun x H1 ⟨c, e, z⟩ => ⟨c, e, ?_⟩
  cases c with
  | true => exact z
  | false =>
    obtain ⟨k, e, z⟩ := z
    cases e
    exact z
theorem tOrL {σ : St} {H : Hp} {Q : Bool → Hp → Prop} (h : tB (LE U Γ W (.or_ ea eb)) σ H Q) : tOr (tB (LE U Γ W ea)) (tB (LE U Γ W eb)) σ H Q := by
  refine LE.mono (lOr0 h) fun x H1 ⟨c, e, z⟩ => ⟨c, e, ?_⟩
  cases c with
  | false => exact z
  | true =>
    obtain ⟨k, e, z⟩ := z
    cases e
    exact z
theorem lIte (ha : PT X a (tB (LE U Γ W ea))) (hb : PE X b (LE U Γ W eb)) (hc : PE X c (LE U Γ W ec)) : PE X (.IfExp a b c pos) (LE U Γ W (.ite ea eb ec)) := by
  refine (pe_ifExp ha hb hc).imp fun σ H Q ⟨ρ, env, s, Q0, R0, R, E, h, c, cx⟩ => ?_
  unfold wpE at h
  refine LE.bool R E h (fun x s1 q => bl_and (A := fun s1 => wpE Γ eb env s1 Q0 R0) (B := fun s1 => wpE Γ ec env s1 Q0 R0) q) cx fun k s1 ρ1 H1 f m R1 => ⟨k, rfl, ?_⟩
  cases k with
  | true => exact ⟨ρ1, env, s1, Q0, R0, R1, E.mono m, by simpa using f, c.mono m, cx.mono m⟩
  | false => exact ⟨ρ1, env, s1, Q0, R0, R1, E.mono m, by simpa using f, c.mono m, cx.mono m⟩
theorem tIte (ha : PT X a (tB (LE U Γ W ea))) (hb : PT X b (tB (LE U Γ W eb))) (hc : PT X c (tB (LE U Γ W ec))) : PT X (.IfExp a b c pos) (tB (LE U Γ W (.ite ea eb ec))) := by
  refine ⟨fun pins sh σ H Q I hl => ?_⟩
  obtain ⟨ρ, env, s, Q0, R0, R, E, h, c, cx⟩ := hl
  unfold wpE at h
  refine isTrue_IfExp (thn (ha.run pins sh σ H (fun k H1 => if k = true then tB (LE U Γ W eb) σ H1 Q else tB (LE U Γ W ec) σ H1 Q) I ?_) fun k s1 ⟨H1, I1, q⟩ => ?_)
  · refine LE.bool R E h (fun x s1 q => bl_and (A := fun s1 => wpE Γ eb env s1 Q0 R0) (B := fun s1 => wpE Γ ec env s1 Q0 R0) q) cx fun k s1 ρ1 H1 f m R1 => ⟨k, rfl, ?_⟩
    cases k with
    | true => exact ⟨ρ1, env, s1, Q0, R0, R1, E.mono m, by simpa using f, c.mono m, cx.mono m⟩
    | false => exact ⟨ρ1, env, s1, Q0, R0, R1, E.mono m, by simpa using f, c.mono m, cx.mono m⟩
  · cases k with
    | true => exact hb.run pins s1 σ H1 Q I1 q
    | false => exact hc.run pins s1 σ H1 Q I1 q
theorem lNeg (ha : PE X a (LE U Γ W ea)) : PE X (.UnaryOp .USub a pos) (LE U Γ W (.neg ea)) := by
  refine ⟨fun pins sh σ H Q I hl => ?_⟩
  obtain ⟨ρ, env, s, Q0, R0, R, E, h, c, cx⟩ := hl
  unfold wpE at h
  refine UnaryOp_ (thn (ha.run pins sh σ H (fun x H1 => ∃ i, x = .int i ∧ Q (.int (-i)) H1) I ⟨ρ, env, s, _, R0, R, E, h, fun v s1 ρ1 H1 x q m R1 r => ?_, cx⟩) fun u s1 ⟨x, H1, I1, r1, i, e, q⟩ => ?_)
  · cases v with
    | int i => exact ⟨i, r, (c.mono m).same R1 q rfl⟩
    | _ => exact q.elim
  · subst e
    obtain ⟨t, rfl⟩ := r1
    exact neg_int ⟨.int (-i), H1, I1.tok _, ⟨_, rfl⟩, q⟩
end
end
end Ly
/-! Lay, part E2: fields, items, calls. -/
namespace Ly
open PySem L2
open PyProof.Rows hiding St
section
variable {U : Wd} {Γ : Prg} {X : Cx} {k : Nat} {W : WX} {ρ : List Addr} {H : Hp} {s : MS}
variable {e a b c : Expr} {es : List Expr} {ea eb ec : E} {ees : Es} {pos p apos : Pos}
/-! ### fields -/
theorem lkM_rv {FL : List Nat} (inj : (FL.map nmOf).Nodup) {f : Nat} (hf : f ∈ FL) {v : MV} : ∀ {fs : List (Nat × MV)} {ws : List (Str × V)}, ws.map (·.1) = fs.map (fun p => nmOf p.1) → RVs U.K ρ H (fs.map (·.2)) (ws.map (·.2)) → (∀ p ∈ fs, p.1 ∈ FL) → lkM f fs = some v →
    ∃ w, ws.lookup (nmOf f) = some w ∧ RV U.K ρ H v w
  | [], ws, _, _, _, e => by cases e
  | (q, u) :: r, [], e1, _, _, _ => by simp at e1
  | (q, u) :: r, (y, w) :: ws, e1, ⟨w', r', e2, h1, h2⟩, hm, e => by
    simp only [List.map_cons, List.cons.injEq] at e1 e2
    unfold lkM at e
    rw [List.lookup_cons]
    by_cases hq : q = f
    · rw [if_pos hq] at e
      cases e
      subst hq
      rw [show (nmOf q == y) = true by rw [e1.1]; exact beq_self_eq_true _]
      exact ⟨w, rfl, by rw [e2.1]; exact h1⟩
    · rw [if_neg hq] at e
      have hne : nmOf q ≠ nmOf f := fun z => by
        have hqm := hm (q, u) List.mem_cons_self
        obtain ⟨i, hi⟩ := List.mem_iff_getElem?.mp hqm
        obtain ⟨j, hj⟩ := List.mem_iff_getElem?.mp hf
        have := nodup_ix inj (i := i) (j := j) (x := nmOf f) (by rw [List.getElem?_map, hi]; simp [z]) (by rw [List.getElem?_map, hj]; rfl)
        subst this
        rw [hi] at hj
        exact hq (Option.some.inj hj)
      rw [show (nmOf f == y) = false by rw [e1.1]; exact beq_eq_false_iff_ne.mpr fun z => hne z.symm]
      exact lkM_rv inj hf e1.2 (by rw [e2.2]; exact h2) (fun p hp => hm p (List.mem_cons_of_mem _ hp)) e
theorem lk_no {m : Nat} : ∀ {fs : List (Nat × MV)} {ws : List (Str × V)}, ws.map (·.1) = fs.map (fun p => nmOf p.1) → (∀ p ∈ fs, nmOf p.1 ≠ nmOf m) → ws.lookup (nmOf m) = none
  | [], [], _, _ => rfl
  | [], _ :: _, e, _ => by simp at e
  | _ :: _, [], e, _ => by simp at e
  | (q, u) :: r, (y, w) :: ws, e, hm => by
    simp only [List.map_cons, List.cons.injEq] at e
    rw [List.lookup_cons, show (nmOf m == y) = false by rw [e.1]; exact beq_eq_false_iff_ne.mpr fun z => hm (q, u) List.mem_cons_self z.symm]
    exact lk_no e.2 fun p hp => hm p (List.mem_cons_of_mem _ hp)
theorem lFld (g : Good U Γ X k) {f : Nat} (hf : U.FL.contains f = true) (hb : nc0 a = true) (ha : PE X a (LE U Γ W ea)) : PE X (.Attribute a (nmOf f) pos) (LE U Γ W (.fld ea f)) := by
  refine (pe_fld ha (base_of hb _ _ _)).imp fun σ H Q ⟨ρ, env, s, Q0, R0, R, E, h, c, cx⟩ => ?_
  unfold wpE at h
  refine ⟨ρ, env, s, _, R0, R, E, h, fun x s1 ρ1 H1 v q m1 R1 r1 => ?_, cx⟩
  unfold fldW at q
  dsimp only at q
  split at q
  · rename_i n
    split at q
    · rename_i cc fs e1
      split at q
      · rename_i mv e2
        obtain ⟨ad, h1, rfl⟩ := r1
        obtain ⟨ad', h2, dx, ws, h3, h4, h5, h6, h7⟩ := R1.at_ _ _ e1
        rw [h1] at h2
        cases h2
        have hfm : f ∈ U.FL := by simpa using hf
        obtain ⟨w, h8, h9⟩ := lkM_rv g.inj hfm h4 h5 h7 e2
        refine ⟨ad, _, dx, ws, w, rfl, h3, ?_, ?_, h8, (c.mono m1).same R1 q h9⟩
        · rw [g.cx.K]; exact h6.cls
        · rw [g.cx.K]; exact h6.no f hfm
      · exact q.elim
    · exact q.elim
  · exact q.elim
theorem lIx (cx0 : Ctx U X) (hb0 : nost b = true) (ha : PE X a (LE U Γ W ea)) (hb : PE X b (LE U Γ W eb)) : PE X (.Subscript a b pos) (LE U Γ W (.ix ea eb)) := by
  refine (pe_ix (ix_any (U := U) cx0) ha hb (plainix_of hb0)).imp fun σ H Q ⟨ρ, env, s, Q0, R0, R, E, h, c, cx⟩ => ?_
  unfold wpE at h
  exact LE.two R E h cx fun x y s2 ρ2 H2 v w q m R2 r1 r2 => ⟨ρ2, s2, x, y, Q0, R2, r1, r2, q, c.mono m⟩
/-- a part of a slice -/
def LO (U : Wd) (Γ : Prg) (W : WX) (e : Eo) : TO := fun σ H Q => ∃ ρ env s Q0 R0, RH U ρ H s ∧ RE U.K ρ H env σ ∧ wpO Γ e env s Q0 R0 ∧ (∀ l s' ρ' H', Q0 l s' → Mo ρ H ρ' H' → RH U ρ' H' s' → Q l H') ∧ CXx U ρ H R0 (fun c d H' => W c d σ H')
theorem _root_.L2.PO.imp {X : Cx} {e : Option Expr} {t t' : TO} (h : PO X e t) (hi : ∀ σ H Q, t' σ H Q → t σ H Q) : PO X e t' := ⟨fun pins s σ H Q I q => h.run pins s σ H Q I (hi σ H Q q)⟩
theorem lO0 : PO X none (LO U Γ W .no) := po_none.imp fun σ H Q ⟨ρ, env, s, Q0, R0, R, E, h, c, cx⟩ => c none s ρ H h Mo.refl R
theorem lO1 (ha : PE X a (LE U Γ W ea)) : PO X (some a) (LO U Γ W (.so ea)) := (po_some ha).imp fun σ H Q ⟨ρ, env, s, Q0, R0, R, E, h, c, cx⟩ => by
  unfold wpO at h
  refine ⟨ρ, env, s, _, R0, R, E, h, fun x s1 ρ1 H1 v q m1 R1 r1 => ?_, cx⟩
  cases x with
  | int i => exact ⟨i, r1, c _ s1 ρ1 H1 q m1 R1⟩
  | _ => exact q.elim
theorem lSl (cx0 : Ctx U X) {lo hi : Option Expr} {el eh : Eo} {p2 : Pos} (ha : PE X a (LE U Γ W ea)) (hl : PO X lo (LO U Γ W el)) (hh : PO X hi (LO U Γ W eh)) : PE X (.Subscript a (.Slice lo hi none p2) pos) (LE U Γ W (.sl ea el eh)) := by
  refine (pe_slice (sl_any (U := U) cx0) ha hl hh).imp fun σ H Q ⟨ρ, env, s, Q0, R0, R, E, h, c, cx⟩ => ?_
  unfold wpE at h
  exact ⟨ρ, env, s, _, R0, R, E, h, fun x s1 ρ1 H1 v q m1 R1 r1 => ⟨ρ1, env, s1, _, R0, R1, E.mono m1, q, fun l s2 ρ2 H2 q2 m2 R2 => ⟨ρ2, env, s2, _, R0, R2, (E.mono m1).mono m2, q2, fun u s3 ρ3 H3 q3 m3 R3 =>
    ⟨ρ3, s3, x, Q0, R3, (r1.mono m2).mono m3, q3, ((c.mono m1).mono m2).mono m3⟩, (cx.mono m1).mono m2⟩, cx.mono m1⟩, cx⟩
/-! ### calls of defs -/
theorem run_at {cc m n : Nat} {sp : MSp} {fa : Addr} {pins : List (Addr × Obj)} {σ : St} {sh : Shared} {Q : VK} {us : List Value} {vs : List V} (hr : Room k X.A) (tk : Takes X W) (F : FnAt U X k cc m sp fa) (I : Inv X pins σ H sh) (r : Vals vs us)
    (h : lift U sp (vs ++ (dflt cc m n).map cV) H Q (WE W σ)) : wpAny (model X.prog X.w) X.A (call (.ref fa) us) (EP X pins σ Q) X.xe sh := by
  obtain ⟨fd, ps, F1, hb⟩ := F.fn
  obtain ⟨ds, b1, b2⟩ := hb n
  exact run_fnSD (E := WE W) F1 hr b1 b2 (passAt tk σ) I r h
theorem lift_of {cc m : Nat} {sp : MSp} {fa : Addr} {σ : St} {Q : VK} {vs : List MV} {ws : List V} {Q0 : QV} {R0 : QX} (F : FnAt U X k cc m sp fa) (R : RH U ρ H s) (r : RVs U.K ρ H vs ws) (h : sp (vs ++ dflt cc m vs.length) s Q0 R0) (c : CV U ρ H Q0 Q)
    (cx : CXx U ρ H R0 (fun c d H' => W c d σ H')) : lift U sp (ws ++ (dflt cc m vs.length).map cV) H Q (WE W σ) :=
  ⟨ρ, _, s, Q0, R0, R, r.append (rvs_c (F.dc _)), h, c, cx⟩
theorem callW_some {cc m : Nat} {K : MSp → Prop} (h : callW Γ cc m K) : ∃ sp, Γ cc m = some sp ∧ K fun vs => sp (vs ++ dflt cc m vs.length) := by
  unfold callW at h
  split at h
  · exact ⟨_, by assumption, h⟩
  · exact h.elim
/-- the arguments, then the callee -/
theorem args_run {f : Value} {first : List Value} {pins : List (Addr × Obj)} {σ : St} {sh : Shared} {Q : VK} {env : MEnv} {Q0 : QV} {R0 : QX} {F0 : List MV → MS → QV → QX → Prop}
    (g : Good U Γ X k) (hk : PySem.W.keepIn X.K f = true) (he : es.all nost = true) (hn : es = [] → ees = .nil) (ha : PA X es (LEs U Γ W ees)) (I : Inv X pins σ H sh) (R : RH U ρ H s) (E : RE U.K ρ H env σ) (h : wpEs Γ ees env s (fun vs s1 => F0 vs s1 Q0 R0) R0)
    (c : CV U ρ H Q0 Q) (cx : CXx U ρ H R0 (fun c d H' => W c d σ H'))
    (run : ∀ (vs : List MV) (ws : List V) (us : List Value) (sh1 : Shared) (s1 : MS) (ρ1 : List Addr) (H1 : Hp), Inv X pins σ H1 sh1 → Mo ρ H ρ1 H1 → RH U ρ1 H1 s1 → RVs U.K ρ1 H1 vs ws → Vals ws us → F0 vs s1 Q0 R0 →
      wpAny (model X.prog X.w) X.A (call f (first ++ us)) (EP X pins σ Q) X.xe sh1) :
    wpAny (model X.prog X.w) X.A (callWith pos f first (backTo pos (starEach es X.env)) []) (EP X pins σ Q) X.xe sh := by
  have hA := ha.run pos pins sh σ H (fun ws H1 => ∃ vs s1 ρ1, Mo ρ H ρ1 H1 ∧ RH U ρ1 H1 s1 ∧ RVs U.K ρ1 H1 vs ws ∧ F0 vs s1 Q0 R0) I ⟨ρ, env, s, _, R0, R, E, h, fun vs s1 ρ1 H1 ws q m R1 r => ⟨vs, s1, ρ1, m, R1, r, q⟩, cx⟩
  cases es with
  | nil =>
    refine PySem.W.callWith_K0 I.kIn hk ?_
    rw [hn rfl] at h
    exact run [] [] [] sh s ρ H I Mo.refl R rfl .nil h
  | cons x xs =>
    rw [List.all_cons, Bool.and_eq_true] at he
    refine PySem.W.callWith_K (h₀ := X.base) I.ok.mod.kin hk (thn hA fun us sh1 ⟨ws, H1, I1, r, vs, s1, ρ1, m, R1, r2, q⟩ => ⟨I1.kIn, ?_⟩) (star_of he.1 _ _) (plain_of pos _ he.2)
    exact run vs ws us sh1 s1 ρ1 H1 I1 m R1 r2 r q
theorem lCall (g : Good U Γ X k) (tk : Takes X W) {f : Nat} {x : Str} (hx : x = nmOf f) (hg : gloB X.env.scope x = true) (hne : es ≠ []) (he : es.all nost = true) (ha : PA X es (LEs U Γ W ees)) : PE X (.Call (.Name x p) es [] pos) (LE U Γ W (.call f ees)) := by
  refine ⟨fun pins sh σ H Q I ⟨ρ, env, s, Q0, R0, R, E, h, c, cx⟩ => ?_⟩
  subst hx
  unfold wpE at h
  obtain ⟨sp, e, h⟩ := callW_some h
  obtain ⟨fa, hm, F⟩ := g.fn f sp e
  obtain ⟨h1, h2, h3⟩ := glo_of hg
  refine wpAny_Call_Name_kw (ld_glob I h1 hm ?_ h2)
  exact args_run (F0 := fun vs s1 Q R => sp (vs ++ dflt 0 f vs.length) s1 Q R) g F.kp he (fun z => absurd z hne) ha I R E h c cx fun vs ws us sh1 s1 ρ1 H1 I1 m R1 r rr q => run_at (n := vs.length) (g.room.mono (Nat.le_succ _)) tk F I1 rr (lift_of F R1 r q (c.mono m) (cx.mono m))
theorem lMeth (g : Good U Γ X k) (tk : Takes X W) {m : Nat} (hfl : ∀ f ∈ U.FL, nmOf f ≠ nmOf m) (hb : nc0 a = true) (hl : es.length < 20) (hp : (apos.endLine == pos.line) = true) (he : es.all nost = true) (hn : es = [] → ees = .nil) (ho : PE X a (LE U Γ W ea)) (ha : PA X es (LEs U Γ W ees)) :
    PE X (.Call (.Attribute a (nmOf m) apos) es [] pos) (LE U Γ W (.meth ea m ees)) := by
  refine ⟨fun pins sh σ H Q I ⟨ρ, env, s, Q0, R0, R, E, h, c, cx⟩ => ?_⟩
  unfold wpE at h
  refine PySem.W.methodCall_KW (thn (ho.run pins sh σ H (fun x H1 => ∃ mv s1 ρ1, Mo ρ H ρ1 H1 ∧ RH U ρ1 H1 s1 ∧ RV U.K ρ1 H1 mv x ∧ (match mv with
    | .loc n => methW Γ n m s1 fun d => callW Γ d m fun sp => wpEs Γ ees env s1 (fun vs s2 => sp (.loc n :: vs) s2 Q0 R0) R0
    | _ => False)) I ⟨ρ, env, s, _, R0, R, E, h, fun mv s1 ρ1 H1 x q m R1 r => ⟨mv, s1, ρ1, m, R1, r, q⟩, cx⟩) fun u sh1 ⟨x, H1, I1, rx, mv, s1, ρ1, m1, R1, r1, q⟩ => ?_) (mcall_of hb he hl hp)
  split at q
  · rename_i n
    unfold methW at q
    split at q
    · rename_i cc fs e1
      split at q
      · rename_i d e2
        obtain ⟨sp, e3, q⟩ := callW_some q
        obtain ⟨fa, hm, F⟩ := g.mt cc m d sp e2 e3
        obtain ⟨ad, h1, rfl⟩ := r1
        obtain ⟨ad', h2, dx, ws, h3, h4, h5, h6, h7⟩ := R1.at_ _ _ e1
        rw [h1] at h2
        cases h2
        obtain rfl : u = Value.ref ad := rx
        refine getmeth_ok I1 h3 (by rw [g.cx.K]; exact h6.cls) hm (lk_no h4 fun p hp => hfl _ (h7 p hp)) ?_
        exact args_run (first := [.ref ad]) (F0 := fun vs s2 Q R => sp (.loc n :: vs ++ dflt d m (MV.loc n :: vs).length) s2 Q R) g F.kp he hn ha I1 R1 (E.mono m1) q (c.mono m1) (cx.mono m1) fun vs ws us sh2 s2 ρ2 H2 I2 m R2 r rr q =>
          run_at (vs := .ref ad :: ws) (us := .ref ad :: us) (n := (MV.loc n :: vs).length) (g.room.mono (Nat.le_succ _)) tk F I2 (.cons rfl rr) (lift_of (vs := .loc n :: vs) (ws := .ref ad :: ws) F R2 ⟨_, _, rfl, ⟨ad, m.at_ h1, rfl⟩, r⟩ q ((c.mono m1).mono m) ((cx.mono m1).mono m))
      · exact q.elim
    · exact q.elim
  · exact q.elim
theorem getcls_ok {C : Addr} {mc : Value} {f : Str} {u : Value} {pins : List (Addr × Obj)} {σ : St} {sh : Shared} {A : Around} {EE : Value → Shared → Prop} {pl : Sem Bool} {Q : Value × List Value → Shared → Prop} (I : Inv X pins σ H sh) (r : ClX.CRead X.K C mc) (e : PySem.W.findCls X.K (.ref C) mc f = some (.val u)) (hh : PySem.W.handedIn u = true)
    (h : ∀ s', Inv X pins σ H s' → Q (u, []) s') : wpAny (model X.prog X.w) A (getMethod (.ref C) f pl) Q EE sh :=
  PySem.W.method_cls I.kIn r.ga (PySem.W.cls_value I.kIn r.rd e hh (h _ (I.tok _)))
theorem lSup (g : Good U Γ X k) (tk : Takes X W) {cc m : Nat} {x : Str} (hx : x = nmOf cc) (h0 : cc ≠ 0) (hg : gloB X.env.scope x = true) (hl : es.length < 20) (hp : (apos.endLine == pos.line) = true) (he : es.all nost = true) (hn : es = [] → ees = .nil) (ha : PA X es (LEs U Γ W ees)) :
    PE X (.Call (.Attribute (.Name x p) (nmOf m) apos) es [] pos) (LE U Γ W (.sup cc m ees)) := by
  refine ⟨fun pins sh σ H Q I ⟨ρ, env, s, Q0, R0, R, E, h, c, cx⟩ => ?_⟩
  subst hx
  unfold wpE at h
  obtain ⟨sp, e3, h⟩ := callW_some h
  obtain ⟨fa, mc, hm, hr, hf, F⟩ := g.cl cc m sp e3 h0
  obtain ⟨h1, h2, h3⟩ := glo_of hg
  refine PySem.W.methodCall_KW (ld_glob I h1 hm ?_ h2) (mcall_of (o := .Name (nmOf cc) p) rfl he hl hp)
  refine getcls_ok I hr hf rfl fun sh1 I1 => ?_
  exact args_run (first := []) (F0 := fun vs s2 Q R => sp (vs ++ dflt cc m vs.length) s2 Q R) g F.kp he hn ha I1 R E h c cx fun vs ws us sh2 s2 ρ2 H2 I2 m R2 r rr q =>
    run_at (n := vs.length) (g.room.mono (Nat.le_succ _)) tk F I2 rr (lift_of F R2 r q (c.mono m) (cx.mono m))
/-- a new instance -/
theorem lMake (g : Good U Γ X k) (tk : Takes X W) {cc : Nat} {x : Str} (hx : x = nmOf cc) (hg : gloB X.env.scope x = true) (he : es.all nost = true) (hn : es = [] → ees = .nil) (ha : PA X es (LEs U Γ W ees)) : PE X (.Call (.Name x p) es [] pos) (LE U Γ W (.make cc ees)) := by
  refine ⟨fun pins sh σ H Q I ⟨ρ, env, s, Q0, R0, R, E, h, c, cx⟩ => ?_⟩
  subst hx
  unfold wpE at h
  split at h
  · rename_i d ed
    obtain ⟨sp, e3, h⟩ := callW_some h
    obtain ⟨fa, hm, M, co, F⟩ := g.mkc cc d sp ed e3
    obtain ⟨h1, h2, h3⟩ := glo_of hg
    refine wpAny_Call_Name_kw (ld_glob I h1 hm ?_ h2)
    refine args_run (first := []) (F0 := fun vs s1 Q R => sp (.loc s1.length :: vs ++ dflt d iInit (MV.loc s1.length :: vs).length) (s1 ++ [.ins cc []]) (fun v s2 => v = .non ∧ Q (.loc s1.length) s2) R) g M.kp he hn ha I R E h c cx fun vs ws us sh1 s1 ρ1 H1 I1 m R1 r rr q => ?_
    obtain ⟨fd, ps, F1, hb⟩ := F.fn
    obtain ⟨ds, b1, b2⟩ := hb (MV.loc s1.length :: vs).length
    have hdx : H1 sh1.heap.objs.size = none := I1.hok.fresh (Nat.le_refl _)
    have hx0 : (upd H1 sh1.heap.objs.size (.own (sh1.heap.objs.size + 1))) (sh1.heap.objs.size + 1) = none := by
      rw [upd_ne (Nat.succ_ne_self _)]
      exact I1.hok.fresh (Nat.le_succ _)
    have I2 := Inv.made (C := clA U.K cc) I1
    have R2 := (R1.aside (o := .own (sh1.heap.objs.size + 1)) hdx).new (o := .ins (clA U.K cc) sh1.heap.objs.size []) (mo := .ins cc []) hx0 ⟨_, [], upd_same .., rfl, rfl, co, fun p hp => nomatch hp⟩
    have m2 : Mo ρ1 H1 (ρ1 ++ [sh1.heap.objs.size + 1]) _ := (Mo.aside (ρ := ρ1) (o := .own (sh1.heap.objs.size + 1)) hdx).trans (Mo.new (o := .ins (clA U.K cc) sh1.heap.objs.size []) hx0)
    have r2 : Vals (V.ref (sh1.heap.objs.size + 1) :: (ws ++ (dflt d iInit (MV.loc s1.length :: vs).length).map cV)) (Value.ref (sh1.heap.objs.size + 1) :: (us ++ ds)) := .cons rfl (rr.append b2)
    have hq : lift U sp (V.ref (sh1.heap.objs.size + 1) :: (ws ++ (dflt d iInit (MV.loc s1.length :: vs).length).map cV)) _ (fun v H2 => v = .non ∧ Q (.ref (sh1.heap.objs.size + 1)) H2) (WE W σ) :=
      lift_of (vs := .loc s1.length :: vs) (ws := .ref (sh1.heap.objs.size + 1) :: ws) (Q0 := fun v s2 => v = .non ∧ Q0 (.loc s1.length) s2) F R2 ⟨_, _, rfl, ⟨_, loc_new R1, rfl⟩, r.mono m2⟩ q
        (fun v s' ρ' H' x z m3 R3 r3 => by
          obtain ⟨rfl, z⟩ := z
          exact ⟨r3, c _ s' ρ' H' _ z ((m.trans m2).trans m3) R3 ⟨_, m3.at_ (loc_new R1), rfl⟩⟩) ((cx.mono m).mono m2)
    have hl : (Value.ref (sh1.heap.objs.size + 1) :: us ++ ds).length = ps.length := by
      have e := r2.length
      rw [F1.len _ _ _ _ hq] at e
      exact e.symm
    refine wpAny_call (make_map (f := fa) I1.kIn M.makes M.init (beq_iff_eq.mp M.fn) (codeAny_mono (F1.run _ X.stack _ _ ⟨Value.ref (sh1.heap.objs.size + 1) :: us, []⟩ (Value.ref (sh1.heap.objs.size + 1) :: (us ++ ds)) _ _ (WE W σ) (g.room.make (clA U.K cc) us [])
      (I2.env0.make (clA U.K cc) us []) (hb' b1 I2.kIn hl) r2 hq) fun r s' hq' => ?_))
    cases r with
    | error e => exact passAt tk σ pins _ _ e s' I2 hq'
    | ok fl =>
      cases fl with
      | ret u =>
        obtain ⟨v, H', I3, rv, ev, q3⟩ := I2.after hq'
        subst ev
        exact ⟨rv, ⟨V.ref (sh1.heap.objs.size + 1), H', I3, rfl, q3⟩⟩
      | next => exact False.elim hq'
      | brk => exact False.elim hq'
      | cont => exact False.elim hq'
  · exact h.elim
where
  hb' {K : PySem.W.Frag} {fd : FuncData} {ps : List Str} {ds : List Value} {s : Shared} {u : Value} {us : List Value} (b : Binds K fd ps ds) (k : K.In s.heap) (hl : (u :: us ++ ds).length = ps.length) : BindsTo s fd ⟨u :: us, []⟩ (ps.zip (u :: (us ++ ds))) := b s (u :: us) k hl
end
end Ly
/-! Lay, part E3: built-in functions and methods, walks, comprehensions. -/
namespace Ly
open PySem L2
open PyProof.Rows hiding St
section
variable {U : Wd} {Γ : Prg} {X : Cx} {k : Nat} {W : WX} {ρ : List Addr} {H : Hp} {s : MS}
variable {e a b c : Expr} {es : List Expr} {ea eb ec : E} {ees : Es} {pos p apos : Pos}
theorem boot_bf (f : BF) (h : bfV f ≠ .none) : bootBuiltins (Str.ofString (bfN f)) = some (bfV f) := by
  cases f <;> first | exact absurd rfl h | decide +kernel
theorem mem_blt (f : BF) (h : bfV f ≠ .none) : bfN f ∈ bltN := by
  cases f <;> first | exact absurd rfl h | decide
theorem bf_kind (f : BF) (h : bfV f ≠ .none) : (∃ id, bfV f = .builtin id) ∨ ∃ T, bfV f = .type T := by
  cases f <;> first | exact absurd rfl h | exact .inl ⟨_, rfl⟩ | exact .inr ⟨_, rfl⟩
theorem lBf (g : Good U Γ X k) {f : BF} (hf : bfV f ≠ .none) (hs : f ≠ .sorted) {x : Str} (hx : isNm x (bfN f) = true) (hg : gloB X.env.scope x = true) (hne : es ≠ []) (he : es.all nost = true) (ha : PA X es (LEs U Γ W ees)) :
    PE X (.Call (.Name x p) es [] pos) (LE U Γ W (.bf f ees)) := by
  obtain ⟨h1, h2, h3⟩ := glo_of hg
  obtain rfl := nm_of hx
  cases es with
  | nil => exact absurd rfl hne
  | cons y ys =>
    rw [List.all_cons, Bool.and_eq_true] at he
    have hp : ∀ σ H Q, LE U Γ W (.bf f ees) σ H Q → tCB (LF U f) (LEs U Γ W ees) σ H Q := fun σ H Q ⟨ρ, env, s, Q0, R0, R, E, h, c, cx⟩ => by
      unfold wpE at h
      exact ⟨ρ, env, s, _, R0, R, E, h, fun vs s1 ρ1 H1 xs q m R1 r => ⟨ρ1, s1, vs, Q0, R1, r, q, c.mono m⟩, cx⟩
    rcases bf_kind f hf with ⟨id, e⟩ | ⟨T, e⟩
    · exact (pe_callB (e ▸ bf_any (U := U) g.cx f hf hs) h1 (g.blt _ (mem_blt f hf)) (e ▸ boot_bf f hf) ha h3 h2 (star_of he.1 _ _) (plain_of _ _ he.2)).imp hp
    · exact (pe_callTy (e ▸ bf_any (U := U) g.cx f hf hs) h1 (g.blt _ (mem_blt f hf)) (e ▸ boot_bf f hf) ha h3 h2 (star_of he.1 _ _) (plain_of _ _ he.2)).imp hp
/-! ### methods of built-in types -/
theorem kind_ty (cx : Ctx U X) {pins : List (Addr × Obj)} {σ : St} {sh : Shared} (I : L2.Inv X pins σ H sh) (R : RH U ρ H s) {mv : MV} {x : V} {u : Value} (r : RV U.K ρ H mv x) (rx : RelV x u) {i : Nat} (e : kindM mv s = some i) :
    ∃ T, (i = 0 → T = "list") ∧ (i = 1 → T = "dict") ∧ (i = 2 → T = "str") ∧ sh.TypeIs u T ∧ ∀ a, u = .ref a → ∃ o, sh.heap.get? a = some o ∧ o.dict = none := by
  unfold kindM at e
  split at e
  · rename_i n
    obtain ⟨ad, h1, rfl⟩ := r
    obtain rfl : u = Value.ref ad := rx
    split at e
    · rename_i xs e1
      cases e
      obtain ⟨vs, e2, _⟩ := R.lst e1 h1
      obtain ⟨its, _, pl, _⟩ := I.list (SqL.of e2)
      refine ⟨"list", fun _ => rfl, (fun z => absurd z (by decide)), (fun z => absurd z (by decide)), pl.isList.typeIs, fun a e => ?_⟩
      cases e
      obtain ⟨o, n, e, c, hd, _⟩ := pl
      exact ⟨o, e, hd⟩
    · rename_i kvs e1
      cases e
      obtain ⟨ad', h2, ws, e2, _⟩ := R.at_ _ _ e1
      rw [h1] at h2
      cases h2
      obtain ⟨_, _, _, _, o, _, _, e, ex, _⟩ := I.hok ad _ e2
      exact ⟨"dict", (fun z => absurd z (by decide)), fun _ => rfl, (fun z => absurd z (by decide)), ⟨o, e, ex.1⟩, fun a e3 => by cases e3; exact ⟨o, e, ex.2.1⟩⟩
    · rename_i kvs e1
      cases e
      obtain ⟨ad', h2, xs, ws, e2, _⟩ := R.at_ _ _ e1
      rw [h1] at h2
      cases h2
      obtain ⟨hx, _, _⟩ := I.hok ad _ e2
      obtain ⟨_, o', es, ep, e', ex, _⟩ := hx
      exact ⟨"dict", (fun z => absurd z (by decide)), fun _ => rfl, (fun z => absurd z (by decide)), ⟨o', e', ex.1⟩, fun a e3 => by cases e3; exact ⟨o', e', ex.2.1⟩⟩
    · rename_i kvs e1
      cases e
      obtain ⟨ad', h2, o0, ws, e2, _⟩ := R.at_ _ _ e1
      rw [h1] at h2
      cases h2
      obtain ⟨h0, _⟩ := I.hok ad _ e2
      obtain ⟨hs, hgd, hx, es, ep, vs, hdt, hsz, kv, hm⟩ := I.frzK e2
      exact ⟨"dict", (fun z => absurd z (by decide)), fun _ => rfl, (fun z => absurd z (by decide)), ⟨o0, h0, hx.1⟩, fun a e3 => by cases e3; exact ⟨o0, h0, hx.2.1⟩⟩
    · cases e
  · cases e
    obtain rfl : x = _ := r
    obtain ⟨t, rfl⟩ := rx
    exact ⟨"str", (fun z => absurd z (by decide)), (fun z => absurd z (by decide)), fun _ => rfl, by show Shared.TypeIs _ _ _; first | exact rfl | exact trivial | simp [Shared.TypeIs], fun a e => nomatch e⟩
  · cases e
def bmT : BM → String
  | .append => "list" | .extend => "list" | .pop => "list" | .popAt => "list" | .clear => "list" | .index => "list"
  | .get => "dict" | .setdefault => "dict" | .lkeys => "dict"
  | _ => "str"
theorem bm_slot {m : BM} (h : bmOk m = true) : PlainAttrs (bmT m) ∧ Slot (bmT m) (Str.ofString (bmN m)) (bmId m (bmT m)) ∧ typeOf (.builtin (bmId m (bmT m))) = pure (.type "method_descriptor") := by
  cases m <;> first | (cases h; done) | skip
  · exact ⟨F.plainAttrs_list, F.slot_list_append, F.type_list_append⟩
  · exact ⟨F.plainAttrs_list, F.slot_list_extend, F.type_list_extend⟩
  · exact ⟨F.plainAttrs_list, F.slot_list_pop, F.type_list_pop⟩
  · exact ⟨F.plainAttrs_list, F.slot_list_pop, F.type_list_pop⟩
  · exact ⟨F.plainAttrs_list, F.slot_list_clear, F.type_list_clear⟩
  · exact ⟨F.plainAttrs_list, F.slot_list_index, F.type_list_index⟩
  · exact ⟨F.plainAttrs_dict, F.slot_dict_get, F.type_dict_get⟩
  · exact ⟨F.plainAttrs_dict, F.slot_dict_setdefault, F.type_dict_setdefault⟩
  · exact ⟨F.plainAttrs_str, F.slot_str_join, F.type_str_join⟩
  · exact ⟨F.plainAttrs_str, F.slot_str_split, F.type_str_split⟩
  · exact ⟨F.plainAttrs_str, F.slot_str_startswith, F.type_str_startswith⟩
  · exact ⟨F.plainAttrs_str, F.slot_str_partition, F.type_str_partition⟩
theorem bm_run (cx : Ctx U X) {m : BM} (h : bmOk m = true) : MtR X (bmId m (bmT m)) (LM U m) := by
  cases m <;> first | (cases h; done) | exact mt_any cx _ (by decide) | exact fun pins sh σ H x xs v us Q I rx rxs q => d_get_any cx I rx rxs q | exact fun pins sh σ H x xs v us Q I rx rxs q => d_setdefault_any cx I rx rxs q | exact mt_any_str cx _ (by decide)
theorem lBm (g : Good U Γ X k) {m : BM} (hm : bmOk m = true) {x : Str} (hx : isNm x (bmN m) = true) (hb : nc0 a = true) (hl : es.length < 20) (hp : (apos.endLine == pos.line) = true) (he : es.all nost = true) (hn : es = [] → ees = .nil) (ho : PE X a (LE U Γ W ea)) (ha : PA X es (LEs U Γ W ees)) :
    PE X (.Call (.Attribute a x apos) es [] pos) (LE U Γ W (.bm m ea ees)) := by
  refine ⟨fun pins sh σ H Q I ⟨ρ, env, s, Q0, R0, R, E, h, c, cx⟩ => ?_⟩
  obtain rfl := nm_of hx
  unfold wpE at h
  obtain ⟨pa, slot, hty⟩ := bm_slot hm
  have rule := bm_run (U := U) g.cx hm
  have hT : ∀ T, (bmK m = 0 → T = "list") ∧ (bmK m = 1 → T = "dict") ∧ (bmK m = 2 → T = "str") → T = bmT m := fun T ⟨h0, h1, h2⟩ => by
    cases m <;> first | exact h0 rfl | exact h1 rfl | exact h2 rfl
  have ho' := ho.run pins sh σ H (fun x H1 => ∃ mv s1 ρ1, Mo ρ H ρ1 H1 ∧ RH U ρ1 H1 s1 ∧ RV U.K ρ1 H1 mv x ∧ kindM mv s1 = some (bmK m) ∧ wpEs Γ ees env s1 (fun vs s2 => bmW m mv vs s2 Q0) R0) I
    ⟨ρ, env, s, _, R0, R, E, h, fun mv s1 ρ1 H1 x q m R1 r => ⟨mv, s1, ρ1, m, R1, r, q.1, q.2⟩, cx⟩
  cases es with
  | nil =>
    rw [hn rfl] at ho'
    refine wpAny_Call_method0_late (base_of hb _ _ _) hp (thn ho' fun v s1 ⟨x, H1, I1, r1, mv, st1, ρ1, m1, R1, rv, hk, q⟩ => ?_)
    obtain ⟨T, t0, t1, t2, h1, h2⟩ := kind_ty g.cx I1 R1 rv r1 hk
    obtain rfl := hT T ⟨t0, t1, t2⟩
    exact ⟨_, _, pa, slot, hty, h1, h2, Calls.callWith_builtin rfl (PySem.evalArgs_none (rule pins s1 σ H1 x [] v [] Q I1 r1 .nil ⟨ρ1, st1, mv, [], Q0, R1, rv, rfl, q, c.mono m1⟩))⟩
  | cons y ys =>
    rw [List.all_cons, Bool.and_eq_true] at he
    have hpl := plain_of pos X.env he.2
    have hfew : ((backTo pos (starEach (y :: ys) X.env)).all (fun x => !x.1) && (backToKw pos (keywordEach [] X.env)).all (fun x => x.1.isSome)
      && decide ((y :: ys).length + ([] : List Keyword).length + (if ([] : List Keyword).isEmpty then 0 else 1) < 30)) = true := by
      have h1 : (backTo pos (starEach (y :: ys) X.env)).all (fun x => !x.1) = true := by
        have := plain_of pos X.env (es := y :: ys) (by rw [List.all_cons, he.1, he.2]; rfl)
        rw [List.all_eq_not_any_not]
        simpa using this
      rw [h1]
      simp [backToKw, keywordEach]
      simp at hl
      omega
    refine wpAny_Call_method_late (base_of hb _ _ _) hfew hp rfl (thn ho' fun v s1 ⟨x, H1, I1, r1, mv, st1, ρ1, m1, R1, rv, hk, q⟩ => ?_)
    obtain ⟨T, t0, t1, t2, h1, h2⟩ := kind_ty g.cx I1 R1 rv r1 hk
    obtain rfl := hT T ⟨t0, t1, t2⟩
    refine ⟨_, _, pa, slot, hty, h1, h2, ?_⟩
    have hA := ha.run pos pins s1 σ H1 (fun ws H2 => LM U m x ws H2 Q) I1 ⟨ρ1, env, st1, _, R0, R1, E.mono m1, q, fun vs s2 ρ2 H2 ws q2 m2 R2 r2 => ⟨ρ2, s2, mv, vs, Q0, R2, rv.mono m2, r2, q2, (c.mono m1).mono m2⟩, cx.mono m1⟩
    rw [star_of he.1] at hA ⊢
    refine Calls.callWith_builtin (by show (false || (backTo pos (starEach ys X.env)).any (·.1)) = false; rw [hpl] <;> rfl) (Calls.evalArgs_plain ?_)
    exact thn hA fun us s2 ⟨vs, H2, I2, r2, q2⟩ => rule pins s2 σ H2 x vs v us Q I2 r1 r2 q2
/-! ### one argument, and another call about it -/
theorem lLrange (g : Good U Γ X k) {x y : Str} {p2 pos2 : Pos} (hx : isNm x "list" = true) (hg : gloB X.env.scope x = true) (hy : isNm y "range" = true) (hg2 : gloB X.env.scope y = true) (he : nost a = true) (ha : PE X a (LE U Γ W ea)) :
    PE X (.Call (.Name x p) [.Call (.Name y p2) [a] [] pos2] [] pos) (LE U Γ W (.bf .lrange (.cons ea .nil))) := by
  obtain rfl := nm_of hx
  obtain rfl := nm_of hy
  refine (pe_listRg g.cx.calm (glo_of hg).1 (g.blt "list" (by decide)) (prg_1 (glo_of hg2).1 (g.blt "range" (by decide)) ha (star_of he _ _)) rfl).imp fun σ H Q ⟨ρ, env, s, Q0, R0, R, E, h, c, cx⟩ => ?_
  unfold wpE wpEs wpEs at h
  refine ⟨ρ, env, s, _, R0, R, E, h, fun v s1 ρ1 H1 w q m R1 r => ?_, cx⟩
  unfold bfW at q
  dsimp only at q
  cases v with
  | int n =>
    dsimp only at q
    obtain ⟨⟨q1, q2⟩, q3⟩ := q
    refine ⟨n, r, ⟨by omega, by omega, by omega, by omega, by omega⟩, fun a ha => (c.mono m).newL R1 q3 ha ?_⟩
    have e : rgV 0 n = (List.range n.toNat).map fun i => V.int ((i : Nat) : Int) := by
      unfold rgV
      simp
    rw [e]
    exact RVs.map (f := fun (i : Nat) => MV.int (i : Int)) (g := fun (i : Nat) => V.int (i : Int)) (fun a => rfl) _
  | _ => exact False.elim q
theorem lTuprev (g : Good U Γ X k) {x y : Str} {p2 pos2 : Pos} (hx : isNm x "tuple" = true) (hg : gloB X.env.scope x = true) (hy : isNm y "reversed" = true) (hg2 : gloB X.env.scope y = true) (he : nost a = true) (ha : PE X a (LE U Γ W ea)) :
    PE X (.Call (.Name x p) [.Call (.Name y p2) [a] [] pos2] [] pos) (LE U Γ W (.bf .tuprev (.cons ea .nil))) := by
  obtain rfl := nm_of hx
  obtain rfl := nm_of hy
  refine (RT.pe_tupRev g.cx.calm (glo_of hg).1 (g.blt "tuple" (by decide)) (glo_of hg2).1 (g.blt "reversed" (by decide)) ha (star_of he _ _) rfl).imp fun σ H Q ⟨ρ, env, s, Q0, R0, R, E, h, c, cx⟩ => ?_
  unfold wpE wpEs wpEs at h
  refine ⟨ρ, env, s, _, R0, R, E, h, fun v s1 ρ1 H1 w q m R1 r => ?_, cx⟩
  unfold bfW at q
  dsimp only at q
  cases v with
  | loc n =>
    dsimp only at q
    split at q
    · rename_i xs e1
      obtain ⟨ad, h1, rfl⟩ := r
      obtain ⟨vs, e2, r2⟩ := R1.lst e1 h1
      exact ⟨ad, vs, rfl, by rw [g.cx.K]; exact SqL.of e2, fun q1 hq => (c.mono m).newT R1 q hq r2.reverse⟩
    · exact q.elim
  | _ => exact False.elim q
/-! ### walks -/
structure Wk (U : Wd) (ρ : List Addr) (H : Hp) (J : L2.It) (xs : List MV) (t : Still) : Prop where
  go : ∀ (i : Nat) (ρ' : List Addr) (H' : Hp) (s' : MS), Mo ρ H ρ' H' → RH U ρ' H' s' → t.ok s' → i < xs.length → J.go i H'
  stop : ∀ (ρ' : List Addr) (H' : Hp) (s' : MS), Mo ρ H ρ' H' → RH U ρ' H' s' → t.ok s' → J.stop xs.length H'
  yld : ∀ (i : Nat) (ρ' : List Addr) (H' : Hp) (s' : MS) (x : V) (H2 : Hp), Mo ρ H ρ' H' → RH U ρ' H' s' → t.ok s' → i < xs.length → J.yld i H' x H2 → Mo ρ' H' ρ' H2 ∧ RH U ρ' H2 s' ∧ ∃ mv, xs[i]? = some mv ∧ RV U.K ρ' H2 mv x
def Still.nd : Still → Prop
  | .dct _ _ => False
  | _ => True
def LI (U : Wd) (Γ : Prg) (W : WX) (it : It) : TI := fun σ H R => ∃ ρ env s Q0 R0, RH U ρ H s ∧ RE U.K ρ H env σ ∧ wpI Γ it env s Q0 R0 ∧
  (∀ xs t s1 ρ1 H1 J, Q0 xs t s1 → t.nd → Mo ρ H ρ1 H1 → RH U ρ1 H1 s1 → Wk U ρ1 H1 J xs t → R J H1) ∧ CXx U ρ H R0 (fun c d H' => W c d σ H')
theorem wk_list {n : Nat} {xs : List MV} {ad : Addr} (ha : ρ[n]? = some ad) : Wk U ρ H (Itl U.K ad) xs (.obj n xs) := by
  have key : ∀ (ρ' : List Addr) (H' : Hp) (s' : MS), Mo ρ H ρ' H' → RH U ρ' H' s' → Still.ok (.obj n xs) s' → ∃ vs, SqL U.K H' ad vs ∧ RVs U.K ρ' H' xs vs := fun ρ' H' s' m R t => by
    obtain ⟨vs, e, r⟩ := R.lst (show s'[n]? = some (.lst xs) from t) (m.at_ ha)
    exact ⟨vs, SqL.of e, r⟩
  refine ⟨fun i ρ' H' s' m R t hi => ?_, fun ρ' H' s' m R t => ?_, fun i ρ' H' s' x H2 m R t hi y => ?_⟩
  · obtain ⟨vs, e, r⟩ := key _ _ _ m R t
    obtain ⟨v, hv, _⟩ := r.get (List.getElem?_eq_getElem hi)
    exact ⟨vs, v, e, hv⟩
  · obtain ⟨vs, e, r⟩ := key _ _ _ m R t
    exact ⟨vs, e, by rw [r.length]; exact Nat.le_refl _⟩
  · obtain ⟨vs, e, r⟩ := key _ _ _ m R t
    obtain ⟨rfl, y⟩ := y
    obtain ⟨mv, h1, h2⟩ := r.getV (y vs e)
    exact ⟨Mo.refl, R, mv, h1, h2⟩
theorem wk_fixL {xs : List MV} {vs : List V} {ad : Addr} (hs : SqF U.K H ad vs) (r : RVs U.K ρ H xs vs) : Wk U ρ H (Itl U.K ad) xs .free := by
  refine ⟨fun i ρ' H' s' m R t hi => ?_, fun ρ' H' s' m R t => ?_, fun i ρ' H' s' x H2 m R t hi y => ?_⟩
  · obtain ⟨v, hv, _⟩ := (r.mono m).get (List.getElem?_eq_getElem hi)
    exact ⟨vs, v, (hs.mono m).seq, hv⟩
  · exact ⟨vs, (hs.mono m).seq, by rw [r.length]; exact Nat.le_refl _⟩
  · obtain ⟨rfl, y⟩ := y
    obtain ⟨mv, h1, h2⟩ := (r.mono m).getV (y vs (hs.mono m).seq)
    exact ⟨Mo.refl, R, mv, h1, h2⟩
theorem wk_tup {xs : List MV} {vs : List V} {ad : Addr} (hs : H ad = some (.tup vs)) (r : RVs U.K ρ H xs vs) : Wk U ρ H (Itt U.K ad) xs .free := by
  refine ⟨fun i ρ' H' s' m R t hi => ?_, fun ρ' H' s' m R t => ?_, fun i ρ' H' s' x H2 m R t hi y => ?_⟩
  · obtain ⟨v, hv, _⟩ := (r.mono m).get (List.getElem?_eq_getElem hi)
    exact ⟨vs, v, SqT.of (m.tups _ _ hs), hv⟩
  · exact ⟨vs, SqT.of (m.tups _ _ hs), by rw [r.length]; exact Nat.le_refl _⟩
  · obtain ⟨rfl, y⟩ := y
    obtain ⟨mv, h1, h2⟩ := (r.mono m).getV (y vs (SqT.of (m.tups _ _ hs)))
    exact ⟨Mo.refl, R, mv, h1, h2⟩
theorem rngIt_len {lo hi : Int} : (rngIt lo hi).length = (hi - lo).toNat := by unfold rngIt; simp
theorem wk_rng {lo hi : Int} : Wk U ρ H (Itr lo (hi - lo).toNat) (rngIt lo hi) .free := by
  refine ⟨fun i ρ' H' s' m R t h => ?_, fun ρ' H' s' m R t => ?_, fun i ρ' H' s' x H2 m R t h y => ?_⟩
  · rw [rngIt_len] at h
    exact h
  · rw [rngIt_len]
    exact Nat.le_refl _
  · obtain ⟨rfl, rfl⟩ := y
    rw [rngIt_len] at h
    exact ⟨Mo.refl, R, .int (lo + (i : Nat)), by unfold rngIt; simp [h], rfl⟩
theorem wk_enm {n : Nat} {xs : List MV} {ad : Addr} (ha : ρ[n]? = some ad) : Wk U ρ H (Ite U.K ad) (xs.zipIdx.map fun p => .tup [.int (p.2 : Nat), p.1]) (.obj n xs) := by
  have key : ∀ (ρ' : List Addr) (H' : Hp) (s' : MS), Mo ρ H ρ' H' → RH U ρ' H' s' → Still.ok (.obj n xs) s' → ∃ vs, SqL U.K H' ad vs ∧ RVs U.K ρ' H' xs vs := fun ρ' H' s' m R t => by
    obtain ⟨vs, e, r⟩ := R.lst (show s'[n]? = some (.lst xs) from t) (m.at_ ha)
    exact ⟨vs, SqL.of e, r⟩
  have hl : (xs.zipIdx.map fun p => MV.tup [.int (p.2 : Nat), p.1]).length = xs.length := by simp
  refine ⟨fun i ρ' H' s' m R t hi => ?_, fun ρ' H' s' m R t => ?_, fun i ρ' H' s' x H2 m R t hi y => ?_⟩
  · obtain ⟨vs, e, r⟩ := key _ _ _ m R t
    rw [hl] at hi
    obtain ⟨v, hv, _⟩ := r.get (List.getElem?_eq_getElem hi)
    exact ⟨vs, v, e, hv⟩
  · obtain ⟨vs, e, r⟩ := key _ _ _ m R t
    exact ⟨vs, e, by rw [hl, r.length]; exact Nat.le_refl _⟩
  · obtain ⟨vs, e, r⟩ := key _ _ _ m R t
    obtain ⟨T, v, rfl, hT, rfl, y⟩ := y
    obtain ⟨mv, h1, h2⟩ := r.getV (y vs e)
    refine ⟨Mo.aside hT, R.aside hT, .tup [.int (i : Nat), mv], ?_, T, _, rfl, upd_same .., _, _, rfl, rfl, _, _, rfl, h2.mono (Mo.aside hT), rfl⟩
    rw [List.getElem?_map, List.getElem?_zipIdx, h1]
    simp
/-- an iterator over a list that stands -/
theorem it_list {tg : Expr} {pins : List (Addr × Obj)} {σ : St} {sh : Shared} {R : L2.It → Hp → Prop} {ad : Addr} {xs : List V} (I : L2.Inv X pins σ H sh) (hq : SqL X.K H ad xs) (q : R (Itl X.K ad) H) :
    wpAny (model X.prog X.w) X.A (pyIter (.ref ad)) (PIE X pins σ tg R) X.xe sh := by
  obtain ⟨its, _, p, _⟩ := I.list hq
  exact wpAny_pyIter_list p.isList (pi_one (tk := sh.toks) I _ (turn_list ad _) ⟨_, Heap.get?_push_size _ rfl, rfl, rfl⟩ q)
theorem it_tup {tg : Expr} {pins : List (Addr × Obj)} {σ : St} {sh : Shared} {R : L2.It → Hp → Prop} {ad : Addr} {xs : List V} (I : L2.Inv X pins σ H sh) (hq : SqT X.K H ad xs) (q : R (Itt X.K ad) H) :
    wpAny (model X.prog X.w) X.A (pyIter (.ref ad)) (PIE X pins σ tg R) X.xe sh := by
  obtain ⟨its, _, p, _⟩ := I.tuple hq
  exact wpAny_pyIter_tuple (show sh.heap.IsTuple ad its.toArray from p) (pi_one (tk := sh.toks) I _ (turn_tuple ad _) ⟨_, Heap.get?_push_size _ rfl, rfl, rfl⟩ q)
theorem it_str {tg : Expr} {pins : List (Addr × Obj)} {σ : St} {sh : Shared} {R : L2.It → Hp → Prop} {x : Str} {t : Tok} (I : L2.Inv X pins σ H sh) (q : R (Its x) H) :
    wpAny (model X.prog X.w) X.A (pyIter (.str x t)) (PIE X pins σ tg R) X.xe sh := by
  cases ha : x.cps.all (· < 128)
  · exact wpAny_pyIter_wide ha (pi_one (tk := sh.toks) I _ (turn_str _ x t "str_iterator" (.inr rfl)) ⟨_, Heap.get?_push_size _ rfl, rfl, rfl⟩ q)
  · exact wpAny_pyIter_ascii ha (pi_one (tk := sh.toks) I _ (turn_str _ x t "str_ascii_iterator" (.inl rfl)) ⟨_, Heap.get?_push_size _ rfl, rfl, rfl⟩ q)
theorem wk_str {z : Str} : Wk U ρ H (Its z) (signsM z) .free := by
  have hl : (signsM z).length = z.cps.size := by simp [signsM]
  refine ⟨fun i ρ' H' s' m R t h => ?_, fun ρ' H' s' m R t => ?_, fun i ρ' H' s' x H2 m R t h y => ?_⟩
  · rw [hl] at h
    exact h
  · rw [hl]
    exact Nat.le_refl _
  · obtain ⟨rfl, c, hc, rfl⟩ := y
    refine ⟨Mo.refl, R, .str ⟨#[c]⟩, ?_, rfl⟩
    unfold signsM
    rw [List.getElem?_map, Array.getElem?_toList, hc]
    rfl
theorem iSeq (hK : X.K = U.K) {tg : Expr} (ha : PE X a (LE U Γ W ea)) : PI X tg a (LI U Γ W (.seq ea)) := by
  refine ⟨fun pins sh σ H R I ⟨ρ, env, s, Q0, R0, RR, E, h, c, cx⟩ => ?_⟩
  unfold wpI at h
  refine thn (ha.run pins sh σ H (fun x H1 => ∃ mv s1 ρ1, Mo ρ H ρ1 H1 ∧ RH U ρ1 H1 s1 ∧ RV U.K ρ1 H1 mv x ∧ (match seqIt mv s1 with
    | some (xs, t) => Q0 xs t s1
    | none => False)) I ⟨ρ, env, s, _, R0, RR, E, h, fun mv s1 ρ1 H1 x q m R1 r => ⟨mv, s1, ρ1, m, R1, r, q⟩, cx⟩) fun u sh1 ⟨x, H1, I1, rx, mv, s1, ρ1, m1, R1, r1, q⟩ => ?_
  cases mv with
  | loc n =>
    unfold seqIt at q
    dsimp only at q
    cases e1 : s1[n]? with
    | none => rw [e1] at q; exact False.elim q
    | some o =>
      rw [e1] at q
      cases o with
      | lst xs =>
        obtain ⟨ad, h1, rfl⟩ := r1
        obtain rfl : u = Value.ref ad := rx
        obtain ⟨vs, e2, _⟩ := R1.lst e1 h1
        exact it_list I1 (SqL.of e2) (c xs _ s1 ρ1 H1 _ q trivial m1 R1 (hK ▸ wk_list h1))
      | _ => exact False.elim q
  | tup xs =>
    obtain ⟨ad, vs, rfl, e2, r2⟩ := r1
    obtain rfl : u = Value.ref ad := rx
    exact it_tup I1 (SqT.of e2) (c xs _ s1 ρ1 H1 _ q trivial m1 R1 (hK ▸ wk_tup e2 r2))
  | flst xs =>
    obtain ⟨ad, vs, rfl, e2, r2⟩ := r1
    obtain rfl : u = Value.ref ad := rx
    exact it_list I1 (by rw [hK]; exact e2.seq) (c xs _ s1 ρ1 H1 _ q trivial m1 R1 (hK ▸ wk_fixL e2 r2))
  | str z =>
    obtain rfl : x = V.str z := r1
    obtain ⟨t, rfl⟩ := rx
    exact it_str I1 (c (signsM z) _ s1 ρ1 H1 _ q trivial m1 R1 wk_str)
  | _ => exact False.elim q
theorem LEs.len : ∀ {ees : Es} {es : List Expr} {N FL} {sc : Scope}, chkEs N FL ees sc es = true → es.all nost = true
  | .nil, [], _, _, _, _ => rfl
  | .nil, _ :: _, _, _, _, h => by unfold chkEs at h; cases h
  | .cons e r, [], _, _, _, h => by unfold chkEs at h; cases h
  | .cons e r, x :: us, N, FL, sc, h => by
    unfold chkEs at h
    simp only [Bool.and_eq_true] at h
    rw [List.all_cons, h.1.1, LEs.len h.2]
    rfl
theorem iRngA (g : Good U Γ X k) {tg : Expr} {x : Str} (hx : isNm x "range" = true) (hg : gloB X.env.scope x = true) (he : nost a = true) (ha : PE X a (LE U Γ W ea)) : PI X tg (.Call (.Name x p) [a] [] pos) (LI U Γ W (.rng (.cons ea .nil))) := by
  obtain rfl := nm_of hx
  refine (pi_range1 (glo_of hg).1 (g.blt "range" (by decide)) (pa_cons ha pa_nil (star_of he _ _)) (star_of he _ _)).imp fun σ H R ⟨ρ, env, s, Q0, R0, RR, E, h, c, cx⟩ => ?_
  unfold wpI wpEs wpEs at h
  refine ⟨ρ, env, s, _, R0, RR, E, h, fun v s1 ρ1 H1 w q m R1 r => ?_, cx⟩
  cases v with
  | int j =>
    obtain rfl : w = _ := r
    have wk := wk_rng (U := U) (ρ := ρ1) (H := H1) (lo := 0) (hi := j)
    rw [Int.sub_zero] at wk
    exact ⟨j, rfl, q.1.1, q.1.2, c _ _ s1 ρ1 H1 _ q.2 trivial m R1 wk⟩
  | _ => exact False.elim q
theorem iRngB (g : Good U Γ X k) {tg : Expr} {x : Str} (hx : isNm x "range" = true) (hg : gloB X.env.scope x = true) (he : nost a = true) (he2 : nost b = true) (ha : PE X a (LE U Γ W ea)) (hb : PE X b (LE U Γ W eb)) :
    PI X tg (.Call (.Name x p) [a, b] [] pos) (LI U Γ W (.rng (.cons ea (.cons eb .nil)))) := by
  obtain rfl := nm_of hx
  refine (pi_range2 (glo_of hg).1 (g.blt "range" (by decide)) (pa_cons ha (pa_cons hb pa_nil (star_of he2 _ _)) (star_of he _ _)) (by rw [star_of he, star_of he2]; rfl) (by rw [star_of he2]; rfl)).imp fun σ H R ⟨ρ, env, s, Q0, R0, RR, E, h, c, cx⟩ => ?_
  unfold wpI wpEs wpEs wpEs at h
  refine LE.two RR E h cx fun x y s2 ρ2 H2 v w q m R2 r1 r2 => ?_
  cases x with
  | int i =>
    cases y with
    | int j =>
      obtain rfl : v = _ := r1
      obtain rfl : w = _ := r2
      exact ⟨i, j, rfl, q.1, c _ _ s2 ρ2 H2 _ q.2 trivial m R2 wk_rng⟩
    | _ => exact False.elim q
  | _ => exact False.elim q
theorem iEnm (g : Good U Γ X k) {elts : List Expr} {kk : Nat} {tpos : Pos} {x : Str} (hx : isNm x "enumerate" = true) (hg : gloB X.env.scope x = true) (he : nost a = true) (ha : PE X a (LE U Γ W ea)) :
    PI X (.Tuple elts kk tpos) (.Call (.Name x p) [a] [] pos) (LI U Γ W (.enm ea)) := by
  obtain rfl := nm_of hx
  refine (pi_enum (glo_of hg).1 (g.blt "enumerate" (by decide)) (pa_cons ha pa_nil (star_of he _ _)) (star_of he _ _)).imp fun σ H R ⟨ρ, env, s, Q0, R0, RR, E, h, c, cx⟩ => ?_
  unfold wpI at h
  refine ⟨ρ, env, s, _, R0, RR, E, h, fun mv s1 ρ1 H1 w q m R1 r => ?_, cx⟩
  cases mv with
  | loc n =>
    unfold enmIt at q
    dsimp only at q
    cases e1 : s1[n]? with
    | none => rw [e1] at q; exact False.elim q
    | some o =>
      rw [e1] at q
      cases o with
      | lst xs =>
        obtain ⟨ad, h1, rfl⟩ := r
        obtain ⟨vs, e2, _⟩ := R1.lst e1 h1
        have hK := g.cx.K
        exact ⟨ad, vs, rfl, SqL.of e2, c _ _ s1 ρ1 H1 _ q trivial m R1 (hK ▸ wk_enm h1)⟩
      | _ => exact False.elim q
  | _ => exact False.elim q
/-! ### targets -/
def LG (U : Wd) (t : Tg) : TG := fun v σ H Q => ∃ ρ env s x k0, RH U ρ H s ∧ RE U.K ρ H env σ ∧ RV U.K ρ H x v ∧ tgW t x env s k0 ∧ ∀ env' σ', k0 env' → RE U.K ρ H env' σ' → Q σ' H
def LGs (U : Wd) (t : Tgs) : TGs := fun v σ H Q => ∃ ρ env s x k0, RH U ρ H s ∧ RE U.K ρ H env σ ∧ RVs U.K ρ H x v ∧ tgsW t x env s k0 ∧ ∀ env' σ', k0 env' → RE U.K ρ H env' σ' → Q σ' H
theorem RE.set {K : PySem.W.Frag} {env : MEnv} {σ : St} (E : RE K ρ H env σ) {i : Nat} {v : MV} {x : V} (r : RV K ρ H v x) : RE K ρ H (env.set i (some v)) (σ.set i (some x)) := by
  refine ⟨by simp [E.len], fun j u e => ?_⟩
  by_cases hj : j = i
  · subst hj
    by_cases hl : j < env.length
    · rw [List.getElem?_set_self hl] at e
      cases e
      exact ⟨x, List.getElem?_set_self (by rw [← E.len]; exact hl), r⟩
    · rw [List.getElem?_eq_none (by simpa using hl)] at e
      cases e
  · rw [List.getElem?_set_ne (Ne.symm hj)] at e ⊢
    exact E.at_ j u e
theorem _root_.L2.PG.imp {X : Cx} {e : Expr} {t t' : TG} (h : PG X e t) (hi : ∀ v σ H Q, t' v σ H Q → t v σ H Q) : PG X e t' := ⟨fun pins s σ H v u Q I r q => h.run pins s σ H v u Q I r (hi v σ H Q q)⟩
theorem _root_.L2.PGs.imp {X : Cx} {e : List Expr} {t t' : TGs} (h : PGs X e t) (hi : ∀ v σ H Q, t' v σ H Q → t v σ H Q) : PGs X e t' := ⟨fun pins s σ H v u Q I r q => h.run pins s σ H v u Q I r (hi v σ H Q q)⟩
/-- what a name that is stored to must be -/
def StB (X : Cx) (x : Str) : Prop := Loc X.env.scope x ∧ (X.fn x = true ∨ X.env.scope.names.lookup x = some .local)
theorem assign_star {e : Expr} (h : nost e = true) (es : List Expr) (env : Env) : assignEach (e :: es) env = (false, assign e env) :: assignEach es env := by
  cases e <;> first | (cases h; done) | rfl
theorem tgs_len : ∀ {ts : Tgs} {es : List Expr} {N : List Str} {ok : Str → Bool} {env : Env}, chkTgs N ok ts es = true → (assignEach es env).length = es.length ∧ (assignEach es env).findIdx? (·.1) = none
  | .nil, [], _, _, _, _ => ⟨rfl, rfl⟩
  | .nil, _ :: _, _, _, _, h => by unfold chkTgs at h; cases h
  | .cons t r, [], _, _, _, h => by unfold chkTgs at h; cases h
  | .cons t r, e :: us, N, ok, env, h => by
    unfold chkTgs at h
    simp only [Bool.and_eq_true] at h
    obtain ⟨h1, h2⟩ := tgs_len (env := env) h.2
    rw [assign_star h.1.1]
    refine ⟨by rw [List.length_cons, List.length_cons, h1], ?_⟩
    rw [List.findIdx?_cons]
    simp [h2]
mutual
theorem tgW_ex : ∀ (t : Tg) (v : MV) (env : MEnv) (s : MS) (k0 : MEnv → Prop), tgW t v env s k0 → ∃ σ, k0 σ
  | .nm i, v, env, s, k0, h => by unfold tgW at h; exact ⟨_, h⟩
  | .tp ts, v, env, s, k0, h => by
    unfold tgW at h
    split at h
    · exact tgsW_ex ts _ env s k0 h
    · split at h
      · exact tgsW_ex ts _ env s k0 h
      · exact h.elim
    · exact h.elim
theorem tgsW_ex : ∀ (t : Tgs) (v : List MV) (env : MEnv) (s : MS) (k0 : MEnv → Prop), tgsW t v env s k0 → ∃ σ, k0 σ
  | .nil, v, env, s, k0, h => by unfold tgsW at h; exact ⟨_, h.2⟩
  | .cons t r, v, env, s, k0, h => by
    unfold tgsW at h
    split at h
    · obtain ⟨σ1, h1⟩ := tgW_ex t _ env s _ h
      exact tgsW_ex r _ σ1 s k0 h1
    · exact h.elim
end
theorem tgsW_len : ∀ {ts : Tgs} {xs : List MV} {env : MEnv} {s : MS} {k0 : MEnv → Prop} {es : List Expr} {N : List Str} {ok : Str → Bool}, tgsW ts xs env s k0 → chkTgs N ok ts es = true → xs.length = es.length
  | .nil, xs, _, _, _, [], _, _, h, _ => by unfold tgsW at h; rw [h.1]; rfl
  | .nil, _, _, _, _, _ :: _, _, _, _, h => by unfold chkTgs at h; cases h
  | .cons t r, _, _, _, _, [], _, _, _, h => by unfold chkTgs at h; cases h
  | .cons t r, [], _, _, _, e :: us, _, _, h, _ => by unfold tgsW at h; exact h.elim
  | .cons t r, v :: vs, env, s, k0, e :: us, N, ok, h, h2 => by
    unfold chkTgs at h2
    simp only [Bool.and_eq_true] at h2
    unfold tgsW at h
    obtain ⟨σ1, h3⟩ := tgW_ex t v env s _ h
    rw [List.length_cons, List.length_cons, tgsW_len h3 h2.2]
mutual
theorem sTg (hK : X.K = U.K) (hc : X.calm = true) (hN : X.N.Nodup) {ok : Str → Bool} (hok : ∀ x, ok x = true → StB X x) : ∀ (t : Tg) (e : Expr), chkTg X.N ok t e = true → PG X e (LG U t)
  | .nm i, e, h => by
    unfold chkTg at h
    split at h
    · simp only [Bool.and_eq_true, decide_eq_true_eq] at h
      obtain ⟨h1, h2⟩ := hok _ h.2
      refine (pg_name hN h.1 h1 h2).imp fun v σ H Q ⟨ρ, env, s, x, k0, R, E, r, w, q⟩ => ?_
      unfold tgW at w
      exact q _ _ w (E.set r)
    · cases h
  | .tp ts, e, h => by
    unfold chkTg at h
    split at h
    · rename_i es kk pos
      have P := sTgs hK hc hN hok ts es h
      obtain ⟨l1, l2⟩ := tgs_len (env := X.env) h
      refine ⟨fun pins sh σ H v u Q I rv ⟨ρ, env, s, x, k0, R, E, r, w, q⟩ => ?_⟩
      unfold tgW at w
      split at w
      · rename_i xs
        obtain ⟨ad, vs, rfl, e2, r2⟩ := r
        exact (pg_tup hc P l1 l2).run pins sh σ H _ u Q I rv ⟨ad, vs, rfl, SqT.of e2, by rw [← r2.length]; exact tgsW_len w h, ρ, env, s, xs, k0, R, E, r2, w, q⟩
      · rename_i n
        split at w
        · rename_i xs e1
          obtain ⟨ad, h1, rfl⟩ := r
          obtain ⟨vs, e2, r2⟩ := R.lst e1 h1
          exact (pg_unl hc P l1 l2).run pins sh σ H _ u Q I rv ⟨ad, vs, rfl, SqL.of e2, by rw [← r2.length]; exact tgsW_len w h, ρ, env, s, xs, k0, R, E, r2, w, q⟩
        · exact w.elim
      · exact w.elim
    · cases h
theorem sTgs (hK : X.K = U.K) (hc : X.calm = true) (hN : X.N.Nodup) {ok : Str → Bool} (hok : ∀ x, ok x = true → StB X x) : ∀ (t : Tgs) (e : List Expr), chkTgs X.N ok t e = true → PGs X e (LGs U t)
  | .nil, e, h => by
    unfold chkTgs at h
    split at h
    · refine pgs_nil.imp fun v σ H Q ⟨ρ, env, s, x, k0, R, E, r, w, q⟩ => ?_
      unfold tgsW at w
      obtain ⟨rfl, w⟩ := w
      exact ⟨r, q _ _ w E⟩
    · cases h
  | .cons t ts, e, h => by
    unfold chkTgs at h
    split at h
    · simp only [Bool.and_eq_true] at h
      refine (pgs_cons (sTg hK hc hN hok t _ h.1.2) (sTgs hK hc hN hok ts _ h.2) (by rw [assign_star h.1.1]; rfl)).imp fun v σ H Q ⟨ρ, env, s, x, k0, R, E, r, w, q⟩ => ?_
      unfold tgsW at w
      split at w
      · obtain ⟨v1, vs, rfl, r1, r2⟩ := r
        exact ⟨v1, vs, rfl, ρ, env, s, _, _, R, E, r1, w, fun env' σ' w' E' => ⟨ρ, env', s, _, k0, R, E', r2, w', q⟩⟩
      · exact w.elim
    · cases h
end
/-! ### comprehensions -/
theorem wipe_re {K : PySem.W.Frag} {env : MEnv} {σ : St} (E : RE K ρ H env σ) : ∀ vs : List Nat, RE K ρ H (wipeM env vs) (wipe σ vs)
  | [] => E
  | v :: vs => by
    have E1 := wipe_re E vs
    unfold wipeM wipe
    refine ⟨by simp [E1.len], fun j u e => ?_⟩
    by_cases hj : j = v
    · subst hj
      by_cases hl : j < (wipeM env vs).length
      · rw [List.getElem?_set_self hl] at e
        cases e
      · rw [List.getElem?_eq_none (by simpa using hl)] at e
        cases e
    · rw [List.getElem?_set_ne (Ne.symm hj)] at e ⊢
      exact E1.at_ j u e
theorem wipe_mem {σ : St} {i : Nat} {x : Option V} : ∀ {vs : List Nat}, i ∈ vs → wipe (σ.set i x) vs = wipe σ vs
  | v :: vs, h => by
    unfold wipe
    by_cases hm : i ∈ vs
    · rw [wipe_mem hm]
    · have e : i = v := by
        rcases List.mem_cons.mp h with e | e
        · exact e
        · exact absurd e hm
      subst e
      rw [wipe_set hm, List.set_set]
where
  wipe_set {σ : St} {i : Nat} {x : Option V} : ∀ {vs : List Nat}, i ∉ vs → wipe (σ.set i x) vs = (wipe σ vs).set i x
  | [], _ => rfl
  | v :: vs, h => by
    unfold wipe
    simp only [List.mem_cons, not_or] at h
    rw [wipe_set h.2, List.set_comm _ _ h.1]
/-- the slots that a target sets -/
def LGk (U : Wd) (vs : List Nat) (t : Tg) : TG := fun v σ H Q => LG U t v σ H fun σ' H' => wipe σ' vs = wipe σ vs → Q σ' H'
def LGsk (U : Wd) (vs : List Nat) (t : Tgs) : TGs := fun v σ H Q => LGs U t v σ H fun σ' H' => wipe σ' vs = wipe σ vs → Q σ' H'
mutual
theorem sTgk (hK : X.K = U.K) (hc : X.calm = true) (hN : X.N.Nodup) {ok : Str → Bool} (hok : ∀ x, ok x = true → StB X x) (vs : List Nat) : ∀ (t : Tg) (e : Expr), chkTg X.N ok t e = true → tgIn vs t = true → PG X e (LGk U vs t)
  | .nm i, e, h, hv => by
    unfold chkTg at h
    unfold tgIn at hv
    split at h
    · simp only [Bool.and_eq_true, decide_eq_true_eq] at h
      obtain ⟨h1, h2⟩ := hok _ h.2
      refine (pg_name hN h.1 h1 h2).imp fun v σ H Q ⟨ρ, env, s, x, k0, R, E, r, w, q⟩ => ?_
      unfold tgW at w
      exact q _ _ w (E.set r) (wipe_mem (by simpa using hv))
    · cases h
  | .tp ts, e, h, hv => by
    unfold chkTg at h
    unfold tgIn at hv
    split at h
    · rename_i es kk pos
      have P := sTgsk hK hc hN hok vs ts es h hv
      obtain ⟨l1, l2⟩ := tgs_len (env := X.env) h
      refine ⟨fun pins sh σ H v u Q I rv ⟨ρ, env, s, x, k0, R, E, r, w, q⟩ => ?_⟩
      unfold tgW at w
      split at w
      · rename_i xs
        obtain ⟨ad, vs, rfl, e2, r2⟩ := r
        exact (pg_tup hc P l1 l2).run pins sh σ H _ u Q I rv ⟨ad, vs, rfl, SqT.of e2, by rw [← r2.length]; exact tgsW_len w h, ρ, env, s, xs, k0, R, E, r2, w, q⟩
      · rename_i n
        split at w
        · rename_i xs e1
          obtain ⟨ad, h1, rfl⟩ := r
          obtain ⟨vs, e2, r2⟩ := R.lst e1 h1
          exact (pg_unl hc P l1 l2).run pins sh σ H _ u Q I rv ⟨ad, vs, rfl, SqL.of e2, by rw [← r2.length]; exact tgsW_len w h, ρ, env, s, xs, k0, R, E, r2, w, q⟩
        · exact w.elim
      · exact w.elim
    · cases h
theorem sTgsk (hK : X.K = U.K) (hc : X.calm = true) (hN : X.N.Nodup) {ok : Str → Bool} (hok : ∀ x, ok x = true → StB X x) (vs : List Nat) : ∀ (t : Tgs) (e : List Expr), chkTgs X.N ok t e = true → tgsIn vs t = true → PGs X e (LGsk U vs t)
  | .nil, e, h, hv => by
    unfold chkTgs at h
    split at h
    · refine pgs_nil.imp fun v σ H Q ⟨ρ, env, s, x, k0, R, E, r, w, q⟩ => ?_
      unfold tgsW at w
      obtain ⟨rfl, w⟩ := w
      exact ⟨r, q _ _ w E rfl⟩
    · cases h
  | .cons t ts, e, h, hv => by
    unfold chkTgs at h
    unfold tgsIn at hv
    split at h
    · simp only [Bool.and_eq_true] at h hv
      refine (pgs_cons (sTgk hK hc hN hok vs t _ h.1.2 hv.1) (sTgsk hK hc hN hok vs ts _ h.2 hv.2) (by rw [assign_star h.1.1]; rfl)).imp fun v σ H Q ⟨ρ, env, s, x, k0, R, E, r, w, q⟩ => ?_
      unfold tgsW at w
      split at w
      · obtain ⟨v1, vs, rfl, r1, r2⟩ := r
        exact ⟨v1, vs, rfl, ρ, env, s, _, _, R, E, r1, w, fun env' σ' w' E' e1 => ⟨ρ, env', s, _, k0, R, E', r2, w', fun env2 σ2 w2 E2 e2 => q env2 σ2 w2 E2 (e2.trans e1)⟩⟩
      · exact w.elim
    · cases h
end
def Wno : WX := fun _ _ _ _ => False
/-- a comprehension's test -/
def LT (U : Wd) (Γ : Prg) (t : Eo) : TT := fun σ H Q => ∃ ρ env s k0, RH U ρ H s ∧ RE U.K ρ H env σ ∧ wpT Γ t env s k0 ∧ ∀ b s' ρ' H', k0 b s' → Mo ρ H ρ' H' → RH U ρ' H' s' → Q b H'
theorem CXx.no {R0 : QX} (h : ∀ x s, ¬ R0 x s) {E : XK} : CXx U ρ H R0 E := fun x s' _ _ _ _ z => (h x s' z).elim
theorem forL_ok {tg : MV → MEnv → MS → (MEnv → Prop) → Prop} {b : MEnv → MS → (MEnv → MS → Prop) → Prop} {t : Still} {nx : MEnv → MS → Prop} : ∀ {xs : List MV} {env : MEnv} {s : MS}, forL tg b t nx xs env s → t.ok s
  | [], _, _, h => h.1
  | _ :: _, _, _, h => h.1
theorem lcL_ok {tg : MV → MEnv → MS → (MEnv → Prop) → Prop} {tt : MEnv → MS → (Bool → MS → Prop) → Prop} {te : MEnv → MS → QV → Prop} {t : Still} {env : MEnv} {D : Nat} {Q : MS → Prop} : ∀ {xs : List MV} {s : MS}, lcL tg tt te t env D Q xs s → t.ok s
  | [], _, h => h.1
  | _ :: _, _, h => h.1
/-- the turns of a comprehension -/
theorem lc_turns {t : Tg} {tst : Eo} {elt : E} {vs : List Nat} {σ : St} {env : MEnv} {xs : List MV} {st : Still} {J : L2.It} {Q1 : MS → Prop} {Qd : Hp → Prop} {D : Addr} (R : RH U ρ H s) (E : RE U.K ρ H env σ) (wk : Wk U ρ H J xs st) (hD : H D = none)
    (h : lcL (tgW t) (fun σ1 s2 k => wpT Γ tst σ1 s2 k) (fun σ1 s2 k => wpE Γ elt σ1 s2 k fun _ _ => False) st (wipeM env vs) s.length Q1 xs (s ++ [.lst []]))
    (hd : ∀ s' ρ' H', Q1 s' → Mo ρ H ρ' H' → RH U ρ' H' s' → ρ'[s.length]? = some D → Qd H') :
    ∃ Wm : Nat → Nat → Hp → Prop, (∃ m, Wm 0 m (upd H D (.lst []))) ∧ ∀ i m H, Wm i m H →
      (J.stop i H ∧ Qd H) ∨ (J.go i H ∧ ∃ Nx : Hp → Prop, (∀ H', Nx H' → ∃ m', m' < m ∧ Wm (i + 1) m' H') ∧ ∀ x H', J.yld i H x H' → LGk U vs t x (wipe σ vs) H' fun σ2 H2 => wipe σ2 vs = wipe σ vs ∧ LT U Γ tst σ2 H2 fun b H3 =>
        if b = true then LE U Γ Wno elt σ2 H3 fun y H4 => ∃ acc, H4 D = some (.lst acc) ∧ acc.length < sizeLine ∧ Nx (upd H4 D (.lst (acc ++ [y]))) else Nx H3) := by
  have hw : ∀ σ : St, wipe (wipe σ vs) vs = wipe σ vs := fun σ => wipe_idem σ vs
  let Pv : Nat → Hp → Prop := fun i H' => ∃ ρ' s', Mo ρ H ρ' H' ∧ RH U ρ' H' s' ∧ ρ'[s.length]? = some D ∧ lcL (tgW t) (fun σ1 s2 k => wpT Γ tst σ1 s2 k) (fun σ1 s2 k => wpE Γ elt σ1 s2 k fun _ _ => False) st (wipeM env vs) s.length Q1 (xs.drop i) s'
  refine lc_it (n := xs.length) (G := fun H' => ∃ ρ' s', Mo ρ H ρ' H' ∧ RH U ρ' H' s' ∧ st.ok s') (Y := fun i H x H' => J.yld i H x H') ⟨fun i H' hi ⟨ρ', s', m, R', o⟩ => wk.go i ρ' H' s' m R' o hi, fun H' ⟨ρ', s', m, R', o⟩ => wk.stop ρ' H' s' m R' o, fun i H x H' _ _ y => y⟩ Pv ?_ ?_ ?_ ?_
  · exact ⟨ρ ++ [D], s ++ [.lst []], Mo.new hD, R.new (mo := .lst []) hD ⟨[], upd_same .., rfl⟩, loc_new R, by rw [List.drop_zero]; exact h⟩
  · rintro i H' hi ⟨ρ', s', m, R', _, l⟩
    exact ⟨ρ', s', m, R', lcL_ok l⟩
  · rintro i x H' H2 hi ⟨ρ', s', m, R', hl, l⟩ y
    obtain ⟨m2, R2, mv, e1, r⟩ := wk.yld i ρ' H' s' x H2 m R' (lcL_ok l) hi y
    have ed : xs.drop i = mv :: xs.drop (i + 1) := by
      obtain ⟨h1, h2⟩ := List.getElem?_eq_some_iff.mp e1
      rw [← h2]
      exact List.drop_eq_getElem_cons h1
    rw [ed] at l
    obtain ⟨_, l⟩ := l
    have m3 := m.trans m2
    refine ⟨ρ', wipeM env vs, s', mv, _, R2, (wipe_re E vs).mono m3, r, l, fun env' σ' w E' e => ⟨by rw [e]; exact hw σ, ρ', env', s', _, R2, E', w, fun b s3 ρ3 H3 q m4 R3 => ?_⟩⟩
    cases b with
    | false =>
      rw [if_neg (by decide)] at q ⊢
      exact ⟨ρ3, s3, m3.trans m4, R3, m4.at_ hl, q⟩
    | true =>
      rw [if_pos rfl] at q ⊢
      refine ⟨ρ3, env', s3, _, _, R3, E'.mono m4, q, fun v s4 ρ4 H4 yv q4 m5 R4 r4 => ?_, CXx.no fun _ _ z => z⟩
      dsimp only at q4
      split at q4
      · rename_i acc ea
        obtain ⟨ws, e4, r5⟩ := R4.lst ea (m5.at_ (m4.at_ hl))
        obtain ⟨R5, m6⟩ := R4.setL (ys := acc ++ [v]) (ws := ws ++ [yv]) ea (m5.at_ (m4.at_ hl)) (r5.append (RVs.one r4))
        exact ⟨ws, e4, by rw [← r5.length]; exact q4.1, ρ4, _, ((m3.trans m4).trans m5).trans m6, R5, m6.at_ (m5.at_ (m4.at_ hl)), q4.2⟩
      · exact q4.elim
  · rintro H' ⟨ρ', s', m, R', hl, l⟩
    rw [List.drop_length] at l
    exact hd s' ρ' H' l.2 m R' hl
where
  wipe_idem (σ : St) : ∀ vs : List Nat, wipe (wipe σ vs) vs = wipe σ vs
  | vs => wipe_all vs vs fun _ h => h
  wipe_all {σ : St} : ∀ (us vs : List Nat), (∀ i ∈ us, i ∈ vs) → wipe (wipe σ vs) us = wipe σ vs
  | [], _, _ => rfl
  | u :: us, vs, h => by
    show (wipe (wipe σ vs) us).set u none = wipe σ vs
    rw [wipe_all us vs fun i hi => h i (List.mem_cons_of_mem _ hi)]
    have hu := h u List.mem_cons_self
    apply List.ext_getElem?
    intro j
    by_cases hj : j = u
    · subst hj
      cases e : (wipe σ vs)[j]? with
      | none =>
        rw [List.getElem?_eq_none_iff] at e
        rw [List.getElem?_eq_none (by simpa using e)]
      | some o =>
        cases o with
        | none => rw [List.getElem?_set_self (List.getElem?_eq_some_iff.mp e).1]
        | some x => exact absurd hu (wipe_some e).2
    · rw [List.getElem?_set_ne (Ne.symm hj)]
end
end Ly
/-! Lay, part E4: isinstance, locks, comprehensions; every expression. -/
namespace Ly
open PySem L2
open PyProof.Rows hiding St
section
variable {U : Wd} {Γ : Prg} {X : Cx} {k : Nat} {W : WX} {ρ ρ' : List Addr} {H H' : Hp} {s : MS}
variable {e a b c : Expr} {es : List Expr} {ea eb ec : E} {ees : Es} {pos p apos : Pos}
/-! ### isinstance -/
def tyN : MV → String
  | .non => "NoneType" | .bl _ => "bool" | .int _ => "int" | .str _ => "str" | .tup _ => "tuple" | .flst _ => "list" | .loc _ => "list"
theorem isi_ok (R : RH U ρ H s) {kk : IK} {mv : MV} {x : V} {r : Bool} (h : isiW kk mv s = some r) (rv : RV U.K ρ H mv x) : TyX U.K H x (.type (tyN mv)) ∧ kitB (tyN mv) (ikN kk) = some r := by
  have hk : ∀ n, kk ≠ .kown n := fun n e => by
    subst e
    unfold isiW at h
    cases h
  cases mv with
  | non =>
    obtain rfl : x = _ := rv
    refine ⟨.base .non, ?_⟩
    cases kk <;> first | exact absurd rfl (hk _) | (unfold isiW at h; dsimp only at h; rw [← h]; decide +kernel)
  | bl b =>
    obtain rfl : x = _ := rv
    refine ⟨.base (.bl b), ?_⟩
    cases kk <;> first | exact absurd rfl (hk _) | (unfold isiW at h; dsimp only at h; rw [← h]; show kitB "bool" _ = _; decide +kernel)
  | int b =>
    obtain rfl : x = _ := rv
    refine ⟨.base (.int b), ?_⟩
    cases kk <;> first | exact absurd rfl (hk _) | (unfold isiW at h; dsimp only at h; rw [← h]; show kitB "int" _ = _; decide +kernel)
  | str b =>
    obtain rfl : x = _ := rv
    refine ⟨.base (.str b), ?_⟩
    cases kk <;> first | exact absurd rfl (hk _) | (unfold isiW at h; dsimp only at h; rw [← h]; show kitB "str" _ = _; decide +kernel)
  | tup xs =>
    obtain ⟨ad, vs, rfl, e, _⟩ := rv
    refine ⟨.base (.tup e), ?_⟩
    cases kk <;> first | exact absurd rfl (hk _) | (unfold isiW at h; dsimp only at h; rw [← h]; show kitB "tuple" _ = _; decide +kernel)
  | flst xs =>
    obtain ⟨ad, vs, rfl, e, _⟩ := rv
    refine ⟨?_, ?_⟩
    · rcases e with ⟨o, e⟩ | ⟨o, its, n, e, c, _⟩
      · exact .base (.frz e)
      · exact .kList e c
    · cases kk <;> first | exact absurd rfl (hk _) | (unfold isiW at h; dsimp only at h; rw [← h]; show kitB "list" _ = _; decide +kernel)
  | loc n =>
    unfold isiW at h
    have hl : ∃ xs, s[n]? = some (.lst xs) ∧ (kk == IK.klist) = r := by
      cases kk <;> first | exact absurd rfl (hk _) | (dsimp only at h; split at h <;> first | exact ⟨_, by assumption, Option.some.inj h⟩ | cases h)
    obtain ⟨xs, e1, e2⟩ := hl
    obtain ⟨ad, h1, rfl⟩ := rv
    obtain ⟨vs, e, _⟩ := R.lst e1 h1
    refine ⟨.base (.lst e), ?_⟩
    rw [← e2]
    cases kk <;> first | exact absurd rfl (hk _) | (show kitB "list" _ = _; decide +kernel)
theorem boot_ik (kk : IK) (h : ∀ n, kk ≠ .kown n) : bootBuiltins (Str.ofString (ikN kk)) = some (.type (ikN kk)) := by
  cases kk <;> first | exact absurd rfl (h _) | decide +kernel
theorem lIsi (g : Good U Γ X k) {kk : IK} (hkk : ∀ n, kk ≠ .kown n) {x z : Str} {pz : Pos} (hx : isNm x "isinstance" = true) (hg : gloB X.env.scope x = true) (he : nost a = true) (ha : PE X a (LE U Γ W ea)) (hz : isNm z (ikN kk) = true) (hgz : gloB X.env.scope z = true) :
    PE X (.Call (.Name x p) [a, .Name z pz] [] pos) (LE U Γ W (.isi ea kk)) := by
  obtain rfl := nm_of hx
  obtain rfl := nm_of hz
  obtain ⟨h1, h2, h3⟩ := glo_of hg
  obtain ⟨g1, g2, g3⟩ := glo_of hgz
  have hm : ikN kk ∈ bltN := by cases kk <;> first | exact absurd rfl (hkk _) | decide
  have pz' : PE X (.Name (Str.ofString (ikN kk)) pz) (tC (.ty (ikN kk))) := pe_bltn g1 (g.blt _ hm) (boot_ik kk hkk) rfl g3 g2
  refine (pe_callB call_isi h1 (g.blt "isinstance" (by decide)) (PyProof.Rows.boot_isinstance) (pa_cons ha (pa_cons pz' pa_nil) (star_of he _ _)) h3 h2 (star_of he _ _)).imp fun σ H Q ⟨ρ, env, s, Q0, R0, R, E, h, c, cx⟩ => ?_
  unfold wpE at h
  refine ⟨ρ, env, s, _, R0, R, E, h, fun mv s1 ρ1 H1 w q m R1 r => ?_, cx⟩
  dsimp only at q
  split at q
  · rename_i b e
    obtain ⟨t1, t2⟩ := isi_ok R1 e r
    exact ⟨w, .ty (ikN kk), _, .type (ikN kk), b, rfl, .ty _, g.cx.K ▸ t1, kit_ty t2, (c.mono m).same R1 q rfl⟩
  · exact q.elim
/-! ### locks -/
structure Mo0 (ρ : List Addr) (H : Hp) (ρ' : List Addr) (H' : Hp) : Prop where
  pre : ρ <+: ρ'
  tups : ∀ a vs, H a = some (.tup vs) → H' a = some (.tup vs)
  frzl : ∀ a o vs, H a = some (.frz o (.lst vs)) → H' a = some (.frz o (.lst vs))
theorem Mo.w (m : Mo ρ H ρ' H') : Mo0 ρ H ρ' H' := ⟨m.pre, m.tups, fun a o vs h => m.frzs a o _ h⟩
mutual
theorem RV.mono0 {K : PySem.W.Frag} (m : Mo0 ρ H ρ' H') : ∀ (x : MV) (v : V), RV K ρ H x v → RV K ρ' H' x v
  | .non, _, h => h
  | .bl _, _, h => h
  | .int _, _, h => h
  | .str _, _, h => h
  | .tup xs, _, ⟨a, vs, e, h1, h2⟩ => ⟨a, vs, e, m.tups _ _ h1, RVs.mono0 m xs vs h2⟩
  | .flst xs, _, ⟨a, vs, e, h1, h2⟩ => ⟨a, vs, e, h1.elim (fun ⟨o, z⟩ => .inl ⟨o, m.frzl _ _ _ z⟩) .inr, RVs.mono0 m xs vs h2⟩
  | .loc n, _, ⟨a, h, e⟩ => ⟨a, by
    obtain ⟨t, e2⟩ := m.pre
    rw [← e2, List.getElem?_append_left (List.getElem?_eq_some_iff.mp h).1]
    exact h, e⟩
theorem RVs.mono0 {K : PySem.W.Frag} (m : Mo0 ρ H ρ' H') : ∀ (xs : List MV) (vs : List V), RVs K ρ H xs vs → RVs K ρ' H' xs vs
  | [], _, h => h
  | x :: xs, _, ⟨v, r, e, h1, h2⟩ => ⟨v, r, e, RV.mono0 m x v h1, RVs.mono0 m xs r h2⟩
end
theorem RO.mono0 {o : MO} {a : Addr} (m : Mo0 ρ H ρ' H') (e : H' a = H a) (h : RO U ρ H o a) : RO U ρ' H' o a := by
  cases o with
  | lst xs => obtain ⟨vs, h1, h2⟩ := h; exact ⟨vs, e.trans h1, RVs.mono0 m _ _ h2⟩
  | dlf kvs => obtain ⟨ws, h1, h2, h3, h4⟩ := h; exact ⟨ws, e.trans h1, h2, h3, RVs.mono0 m _ _ h4⟩
  | fdl kvs => obtain ⟨ob, ws, h1, h2, h3, h4⟩ := h; exact ⟨ob, ws, e.trans h1, h2, h3, RVs.mono0 m _ _ h4⟩
  | dtp kvs => obtain ⟨xs, ws, h1, h2, h3, h4, h5, h6⟩ := h; exact ⟨xs, ws, e.trans h1, h2, h3, h4, RVs.mono0 m _ _ h5, fun x hx => ⟨(h6 x hx).1, RV.mono0 m _ _ (h6 x hx).2⟩⟩
  | ins c fs => obtain ⟨dx, ws, h1, h2, h3, h4⟩ := h; exact ⟨dx, ws, e.trans h1, h2, RVs.mono0 m _ _ h3, h4⟩
theorem RE.mono0 {K : PySem.W.Frag} {env : MEnv} {σ : St} (m : Mo0 ρ H ρ' H') (h : RE K ρ H env σ) : RE K ρ' H' env σ :=
  ⟨h.len, fun i v e => let ⟨x, e1, r⟩ := h.at_ i v e; ⟨x, e1, RV.mono0 m _ _ r⟩⟩
/-- a dict is locked -/
theorem RH.lock (R : RH U ρ H s) {n : Nat} {kvs : List (Key × MV)} (hn : s[n]? = some (.dlf kvs)) : ∃ ad ws, ρ[n]? = some ad ∧ H ad = some (.dK ws) ∧ ∀ o, Mo ρ H ρ (upd H ad (.frz o (.dK ws))) ∧ RH U ρ (upd H ad (.frz o (.dK ws))) (s.set n (.fdl kvs)) := by
  obtain ⟨ad, h1, ws, h2, h3, h4, h5⟩ := R.at_ _ _ hn
  have mu : Mut (H ad) := by rw [h2]; trivial
  exact ⟨ad, ws, h1, h2, fun o => ⟨Mo.write mu, R.write h1 (List.getElem?_eq_some_iff.mp hn).1 mu ⟨o, ws, upd_same .., h3, h4, h5.mono (Mo.write mu)⟩⟩⟩
/-- .. and let go -/
theorem RH.unlock {ad : Addr} {ws : List (Key × V)} {o : Obj} {s' : MS} {n : Nat} {kvs : List (Key × MV)} (h0 : H ad = some (.dK ws)) (ha : ρ[n]? = some ad) (m : Mo ρ (upd H ad (.frz o (.dK ws))) ρ' H') (R : RH U ρ' H' s') (hn : s'[n]? = some (.fdl kvs)) :
    H' ad = some (.frz o (.dK ws)) ∧ Mo ρ H ρ' (upd H' ad (.dK ws)) ∧ RH U ρ' (upd H' ad (.dK ws)) (s'.set n (.dlf kvs)) ∧ Mo0 ρ' H' ρ' (upd H' ad (.dK ws)) := by
  have h1 : H' ad = some (.frz o (.dK ws)) := m.frzs _ _ _ (upd_same ..)
  have m0 : Mo0 ρ' H' ρ' (upd H' ad (.dK ws)) := ⟨List.prefix_refl _, fun b vs e => by
    rw [upd_ne fun z => by subst z; rw [h1] at e; cases e]
    exact e, fun b ob vs e => by
    rw [upd_ne fun z => by subst z; rw [h1] at e; cases e]
    exact e⟩
  have ha' := m.at_ ha
  refine ⟨h1, ⟨m.pre, fun b vs e => ?_, fun b ob u e => ?_⟩, ⟨by simp [R.len], R.nd, fun j ob e => ?_⟩, m0⟩
  · have hb : b ≠ ad := fun z => by subst z; rw [h0] at e; cases e
    rw [upd_ne hb]
    exact m.tups _ _ (by rw [upd_ne hb]; exact e)
  · have hb : b ≠ ad := fun z => by subst z; rw [h0] at e; cases e
    rw [upd_ne hb]
    exact m.frzs _ _ _ (by rw [upd_ne hb]; exact e)
  · by_cases hj : j = n
    · subst hj
      rw [List.getElem?_set_self (List.getElem?_eq_some_iff.mp hn).1] at e
      cases e
      obtain ⟨b, hb, o2, ws2, h2, h3, h4, h5⟩ := R.at_ _ _ hn
      rw [ha'] at hb
      cases hb
      rw [h1] at h2
      cases h2
      exact ⟨ad, ha', ws, upd_same .., h3, h4, RVs.mono0 m0 _ _ h5⟩
    · rw [List.getElem?_set_ne (Ne.symm hj)] at e
      obtain ⟨b, hb, r⟩ := R.at_ _ _ e
      exact ⟨b, hb, r.mono0 m0 (upd_ne fun z => hj (by subst z; exact RH.write.nodup_ix' R.nd hb ha'))⟩
theorem kV_rv (q : Key) : RV U.K ρ H (ofLeaf q) (kV q) := by cases q <;> exact rfl
theorem wk_keys {n : Nat} {ad : Addr} {kvs : List (Key × MV)} {ws : List (Key × V)} {o : Obj} (h1 : H ad = some (.frz o (.dK ws))) (hk : ws.map (·.1) = kvs.map (·.1)) : Wk U ρ H (Itk ad o ws) (kvs.map fun p => ofLeaf p.1) (.dct n kvs) := by
  have hl : ws.length = kvs.length := by have := congrArg List.length hk; simpa using this
  have w := walk_keys (d := ad) (o := o) (kvs := ws)
  refine ⟨fun i ρ' H' s' m R t hi => w.goes i H' (by rw [List.length_map] at hi; omega) (m.frzs _ _ _ h1), fun ρ' H' s' m R t => by rw [List.length_map, ← hl]; exact w.stops H' (m.frzs _ _ _ h1), fun i ρ' H' s' x H2 m R t hi y => ?_⟩
  rw [List.length_map] at hi
  obtain ⟨rfl, q, v, e, rfl⟩ := w.yields i H' x H2 (by omega) (m.frzs _ _ _ h1) y
  refine ⟨Mo.refl, R, ofLeaf q, ?_, kV_rv q⟩
  have e2 : (ws.map (·.1))[i]? = some q := by rw [List.getElem?_map, e]; rfl
  rw [hk, List.getElem?_map] at e2
  rw [List.getElem?_map]
  cases e3 : kvs[i]? with
  | none => rw [e3] at e2; cases e2
  | some p =>
    rw [e3] at e2
    cases e2
    rfl
/-! ### comprehensions -/
theorem own_map {N : List Str} {vs : List Nat} : (ownOf N vs).map (·.2) = vs := by
  unfold ownOf
  rw [List.map_map]
  simp [Function.comp_def]
theorem blk_st {sh : Shared} {scope : Scope} {cl : List (Str × Addr)} {C : Addr} {fp : List Addr} {x : Str} (h : locB scope x = true) : StB (X.blk sh H scope (compEnvC scope cl C X.env) fp) x := by
  rcases loc_of h with h | h
  · have h2 : (relS scope X.env.scope).names.lookup x = some .local := lookup_relS_keep (by decide) h
    exact ⟨.inl h2, .inr h2⟩
  · have h2 : (relS scope X.env.scope).names.lookup x = some .cell := lookup_relS_keep (by decide) h
    exact ⟨.inr h2, .inl (by show (scope.names.lookup x == some .cell) = true; rw [h]; rfl)⟩
section
variable {it : It} {tg : Tg} {tst : Eo} {elt : E} {vs : List Nat} {t i y : Expr} {ifs : List Expr} {scope : Scope}
/-- what the parts of a comprehension must bring -/
structure LcOk (U : Wd) (Γ : Prg) (X : Cx) (tg : Tg) (tst : Eo) (elt : E) (vs : List Nat) (t y : Expr) (ifs : List Expr) (scope : Scope) : Prop where
  ok : BlkOk X.N X.env.scope scope (ownOf X.N vs)
  tgt : ∀ (s : Shared) (H : Hp) (C : Addr) (cl : List (Str × Addr)) (fp : List Addr), PG (X.blk s H scope (compEnvC scope cl C X.env) fp) t (LGk U vs tg)
  tests : ∀ (s : Shared) (H : Hp) (C : Addr) (cl : List (Str × Addr)) (fp : List Addr), PTs (X.blk s H scope (compEnvC scope cl C X.env) fp) ifs (LT U Γ tst)
  el : ∀ (s : Shared) (H : Hp) (C : Addr) (cl : List (Str × Addr)) (fp : List Addr), PE (X.blk s H scope (compEnvC scope cl C X.env) fp) y (LE U Γ Wno elt)
theorem Still.out_nd {t : Still} (h : t.nd) {s : MS} {k : MS → Prop} (q : t.out s k) : k s := by
  cases t with
  | dct n kvs => exact h.elim
  | free => exact q
  | obj n xs => exact q
theorem lc_free (hnd : ∀ e, it ≠ .dk e) {σ : St} {H : Hp} {Q : VK} (hl : LE U Γ W (.lc elt tg it tst vs) σ H Q) : tLc (LI U Γ W it) (LGk U vs tg) (LT U Γ tst) (LE U Γ Wno elt) vs σ H Q := by
  obtain ⟨ρ, env, s, Q0, R0, R, E, h, c, cx⟩ := hl
  unfold wpE at h
  exact ⟨ρ, env, s, _, R0, R, E, h, fun xs t s1 ρ1 H1 J q nd m R1 wk D hD => lc_turns R1 (E.mono m) wk hD q fun s' ρ' H' q' m' R' hl => (c.mono m) _ s' ρ' H' _ (Still.out_nd nd q') m' R' ⟨D, hl, rfl⟩, cx⟩
theorem lc_dk (hK : X.K = U.K) {ed : E} {σ : St} {H : Hp} {Q : VK} (hl : LE U Γ W (.lc elt tg (.dk ed) tst vs) σ H Q) : tLockE (tLc (iKeys (LE U Γ W ed)) (LGk U vs tg) (LT U Γ tst) (LE U Γ Wno elt) vs) σ H Q := by
  obtain ⟨ρ, env, s, Q0, R0, R, E, h, c, cx⟩ := hl
  unfold wpE wpI at h
  obtain ⟨n, kvs, hn, h⟩ := h
  obtain ⟨ad, ws, ha, h0, lk⟩ := R.lock hn
  refine ⟨ad, .dK ws, h0, trivial, fun od => ?_⟩
  obtain ⟨ml, Rl⟩ := lk od
  refine ⟨ρ, env, _, _, R0, Rl, E.mono ml, h, fun v s1 ρ1 H1 x q m1 R1 r1 => ?_, cx.mono ml⟩
  obtain ⟨rfl, hf, q⟩ := q
  obtain ⟨ad', ha', rfl⟩ := r1
  rw [m1.at_ ha] at ha'
  cases ha'
  have h1 : H1 ad = some (.frz od (.dK ws)) := m1.frzs _ _ _ (upd_same ..)
  obtain ⟨b, hb, o2, ws2, h2, h3, _, _⟩ := R1.at_ _ _ hf
  rw [m1.at_ ha] at hb
  cases hb
  rw [h1] at h2
  cases h2
  refine ⟨ad, od, rfl, .inl ⟨ws, h1, fun D hD => lc_turns R1 ((E.mono ml).mono m1) (wk_keys h1 h3) hD q fun s' ρ' H' q' m' R' hl => ?_⟩⟩
  obtain ⟨q1, q2⟩ := q'
  obtain ⟨e1, m2, R2, _⟩ := RH.unlock h0 ha (m1.trans m') R' q1
  exact ⟨e1, c _ _ ρ' _ _ q2 m2 R2 ⟨D, hl, rfl⟩⟩
theorem lLc (g : Good U Γ X k) (hnd : ∀ e, it ≠ .dk e) (ho : LcOk U Γ X tg tst elt vs t y ifs scope) (hi : PI X t i (LI U Γ W it)) (hs : nost i = true) : PE X (.ListComp y [⟨t, i, ifs, 0⟩] scope pos) (LE U Γ W (.lc elt tg it tst vs)) := by
  have z := pe_lc (pos := pos) g.cx.calm g.nd hi ho.ok ho.tgt ho.tests ho.el (fold_of hs)
  rw [own_map] at z
  exact z.imp fun σ H Q h => lc_free hnd h
theorem lLcD (g : Good U Γ X k) {ed : E} (ho : LcOk U Γ X tg tst elt vs t y ifs scope) (hi : PE X i (LE U Γ W ed)) (hs : nost i = true) : PE X (.ListComp y [⟨t, i, ifs, 0⟩] scope pos) (LE U Γ W (.lc elt tg (.dk ed) tst vs)) := by
  have z := pe_lock (pe_lc (pos := pos) g.cx.calm g.nd (pi_keys hi) ho.ok ho.tgt ho.tests ho.el (fold_of hs))
  rw [own_map] at z
  exact z.imp fun σ H Q h => lc_dk g.cx.K h
end
theorem both {x : Expr} {t : TE} (h : PE X x t) (he : ∀ whole, isTrue x X.env whole = (do let v ← whole; standAt x.pos; holding [v] (truthy v))) : PE X x t ∧ PT X x (tB t) := ⟨h, pt_val h he⟩
theorem pw_of {op : BoolOp} {vs : List Expr} {t : TT} (h : PT X (.BoolOp op vs pos) t) : PW X (.BoolOp op vs pos) t := ⟨fun wh pins s σ H Q I q => by
  have e : isTrue (.BoolOp op vs pos) X.env wh = isTrue (.BoolOp op vs pos) X.env (eval (.BoolOp op vs pos) X.env) := by rfl
  rw [e]
  exact h.run pins s σ H Q I q⟩
theorem nil_of {N FL} {sc : Scope} {ees : Es} (h : chkEs N FL ees sc [] = true) : ees = .nil := by
  cases ees with
  | nil => rfl
  | cons e r => unfold chkEs at h; cases h
theorem isE {l : List Expr} (h : (!l.isEmpty) = true) : l ≠ [] := fun e => by subst e; cases h
end
end Ly
/-! Lay, part S: sorted(set(a list of ints)). -/
namespace Ly
open PySem PySem.Spec PyProof.Rows L2 PyProof.Rows PySem.F
/-- a set that was just laid -/
abbrev fset (w : World) : Obj := { cls := .type "set", dict := none, data := .set #[] 0 (.fresh 0 0 (!w.params.followText "set-order")) }
set_option maxHeartbeats 3200000 in
theorem set_ints {P : Program} {w : World} {A : Around} {EE : Value → Shared → Prop} {sh : Shared} {l : Addr} {its : Array Value} (ns : List Int) {Q : Value → Shared → Prop} (hA : A.handled = none) (hL : sh.heap.IsList l its) (hI : IntsAre its.toList ns) (hB : ns.length + 1 < scanBound)
    (hQ : ∀ (h' : Heap) (tk c : Nat), SetR w h' sh.heap.objs.size (fun j => decide (j ∈ ns)) c → c ≤ ns.length → (∀ b o, sh.heap.get? b = some o → h'.get? b = some o) → Q (.ref sh.heap.objs.size) { sh with heap := h', toks := tk }) :
    wpAny (model P w) A (call (.type "set") [.ref l]) Q EE sh := by
  have hN : its.size = ns.length := by
    have q := IntsAre.length hI
    rwa [Array.length_toList] at q
  obtain ⟨cc, tl, hmro⟩ := F.called_set.mro
  have hmade' := F.called_set.made
  have hsub' := F.called_set.sub
  refine wpAny_call (codeAny_of_tree ?_)
  show wpAny _ _ (callAny (.type "set") _) _ _ _
  refine wpAny_pure ⟨Code.quiet_builtin _ (by decide +kernel), codeAny_builtin (F.entry_type_call) ?_⟩
  rw [Around.under_plain (weight_type_call_type "set" [.ref l] []) (rfl)]
  have n1 := F.called_set.notType
  have n2 := F.called_set.canCreate
  have n3 := F.typeCall_set_1 (.ref l)
  repeat (any_goals (first | assumption | wp_step))
  refine codeAny_mono (code_set_led1 (.ref l) (E := EE) (Q₁ := fun ob s1 => ob = .ref sh.heap.objs.size ∧ s1 = { sh with heap := sh.heap.push (fset w) }) ⟨rfl, rfl⟩) fun r s1 hr => ?_
  cases r with
  | error e => exact hr
  | ok fl =>
    cases fl with
    | ret ob =>
      obtain ⟨rfl, rfl⟩ := hr
      have g0 : (sh.heap.push (fset w)).get? sh.heap.objs.size = some (fset w) := Heap.get?_push_size _ rfl
      have g1 : Shared.TypeIs { sh with heap := sh.heap.push (fset w) } (.ref sh.heap.objs.size) "set" := ⟨_, g0, rfl⟩
      have n4 := F.called_set.init.lookup
      have n5 := F.called_set.init.bind (.ref sh.heap.objs.size)
      repeat (any_goals (first | assumption | wp_step))
      refine codeAny_mono (codeAny_call_builtin (R := wants (fun r s2 => r = .none ∧ ∃ h' tk c, s2 = { sh with heap := h', toks := tk } ∧ SetR w h' sh.heap.objs.size (fun j => decide (j ∈ ns)) c ∧ c ≤ ns.length ∧
          (∀ b o, sh.heap.get? b = some o → h'.get? b = some o)) EE) F.called_set.init.plain F.entry_set_init (check_set_init_1 g1 ?_)) fun r2 s2 hr2 => ?_
      · obtain ⟨ol, e0, e1, nl, e2⟩ := hL
        obtain ⟨oc, od, dt, osl⟩ := ol
        simp only at e1 e2
        subst e1; subst e2
        have e3 : (sh.heap.push (fset w)).get? l = some { cls := .type "list", dict := od, data := .seq its nl, slots := osl } := Heap.get?_push_of_some _ e0
        have u1 := F.sub_list_set
        have u2 := F.sub_list_frozenset
        have u3 : (Value.type "list" == Value.type "dict") = false := by decide
        have e4 : (sh.heap.push (fset w)).IsList l its := ⟨_, e3, rfl, nl, rfl⟩
        unfold Builtin.«set.__init__» noKeywords Builtin.Frozenset.updateFrom
        generalize hPI : pyIter = PI
        wp_walk
        subst hPI
        refine wpAny_pyIter_list e4 ?_
        refine wpAny_bind (wpAny_runValue ?_)
        have lt0 : l < sh.heap.objs.size := Heap.lt_size e0
        have hh : A.in1.in1.in1.handled = none := by simp [hA]
        have ne1 : l ≠ (sh.heap.push (fset w)).objs.size := by
          rw [Heap.size_push]
          exact Nat.ne_of_lt (Nat.lt_succ_of_lt lt0)
        have nin : sh.heap.objs.size ∉ [(sh.heap.push (fset w)).objs.size, l] := by
          rw [Heap.size_push]
          simp only [List.mem_cons, List.not_mem_nil, or_false, not_or]
          exact ⟨Nat.ne_of_lt (Nat.lt_succ_self _), Nat.ne_of_gt lt0⟩
        have hv : ∀ (i : Nat) (v : Value), its[i]? = some v → ∃ k t, ns[i]? = some k ∧ v = .int k t := fun i v q => by
          have hi : i < ns.length := by rw [← hN]; exact (Array.getElem?_eq_some_iff.mp q).1
          obtain ⟨t, e⟩ := PyProof.Rows.IntsAre.int_at hI i v (by rw [Array.getElem?_toList]; exact q)
          refine ⟨ns[i], t, List.getElem?_eq_getElem hi, ?_⟩
          rw [e, List.getD_eq_getElem?_getD, List.getElem?_eq_getElem hi] <;> rfl
        refine set_update_ints ((Walks.list hh _ l ne1 its).toS) sh.heap.objs.size nin ns hN hB hv (its.size - 0) 0 _ (by omega) (Nat.zero_le _) ⟨⟨_, Heap.get?_push_size _ rfl, rfl, rfl⟩, (e4.push _)⟩ ?w0 ?w1
        case w0 =>
          have hg : ((sh.heap.push (fset w)).push { cls := .type "list_iterator", data := .fields #[.ref l, .int 0 0] }).get? sh.heap.objs.size = some (fset w) := Heap.get?_push_of_some _ g0
          exact ⟨0, Nat.le_refl 0, setR_new_at hg⟩
        case w1 =>
          intro s3 c3 mv hc3 hS3
          obtain ⟨h3, g3, d3, tk3, os3⟩ := s3
          have eg : g3 = sh.gens := mv.gens
          have ed : d3 = sh.drawn := mv.drawn
          have eo : os3 = sh.os := mv.os
          subst eg; subst ed; subst eo
          show wpAny _ _ _ _ _ _
          refine wpAny_pure ?_
          show wpAny _ _ (ret Value.none) _ _ _
          rw [hN] at hc3
          refine wpAny_pure ⟨rfl, h3, tk3, c3, rfl, hS3, hc3, fun b o e => ?_⟩
          have b0 : b < sh.heap.objs.size := Heap.lt_size e
          have b2 : b ≠ (sh.heap.push (fset w)).objs.size := by
            rw [Heap.size_push]
            exact Nat.ne_of_lt (Nat.lt_succ_of_lt b0)
          exact mv.heap b o (by simp only [List.mem_cons, List.not_mem_nil, or_false, not_or]; exact ⟨Nat.ne_of_lt b0, b2⟩) (Heap.get?_push_of_some _ (Heap.get?_push_of_some _ e))
      · cases r2 with
        | error e => exact hr2
        | ok fl2 =>
          cases fl2 with
          | ret u =>
            obtain ⟨rfl, h', tk, c, rfl, h1, h2, h3⟩ := hr2
            repeat (any_goals (first | assumption | wp_step))
            exact hQ h' tk c h1 h2 h3
          | next => exact False.elim hr2
          | brk => exact False.elim hr2
          | cont => exact False.elim hr2
    | next => exact False.elim hr
    | brk => exact False.elim hr
    | cont => exact False.elim hr
end Ly
/-! Lay, part E5: every expression keeps what it must meet. -/
namespace Ly
open PySem L2
open PyProof.Rows hiding St
section
variable {U : Wd} {Γ : Prg} {k : Nat}
def tSetI (ta : TE) (X : Cx) : TE := fun σ H Q => ta σ H fun x H1 => ∃ (ad : Addr) (ns : List Int), x = .ref ad ∧ SqL X.K H1 ad (ns.map V.int) ∧ ns.length + 1 < scanBound ∧ ∀ p c, H1 p = none → c ≤ ns.length → Q (.ref p) (upd H1 p (SetO X.w p (fun j => decide (j ∈ ns)) c))
theorem pe_setI {X : Cx} {a : Expr} {ta : TE} {p pos : Pos} (hc : X.calm = true) (hg : Gl X "set") (hm : X.mg "set" = none) (na : starEach [a] X.env = (false, eval a X.env) :: starEach [] X.env) (ha : PE X a ta) : PE X (.Call (.Name "set" p) [a] [] pos) (tSetI ta X) := by
  refine ⟨fun pins sh σ H Q I h => ?_⟩
  refine Call_ (ld_blt I hg hm PyProof.Rows.boot_set (PyProof.Rows.callWith_type1 (args_cons (thn (ha.run pins sh σ H _ I h) fun v s1 ⟨x, H1, I1, r1, q1⟩ => args_nil ?_) na) na rfl))
  obtain ⟨ad, ns, rfl, hq, hb, q⟩ := q1
  obtain rfl : v = Value.ref ad := r1
  obtain ⟨its, rv, pl, hz⟩ := I1.list hq
  refine set_ints ns (I1.ok.hd hc) pl.isList (by simpa using intsAre_of rv) hb fun h' tk c hR hcn hk => ?_
  exact ⟨.ref s1.heap.objs.size, _, I1.laid (a := s1.heap.objs.size) (o := SetO X.w s1.heap.objs.size (fun j => decide (j ∈ ns)) c) (h' := h') (t' := tk) (fun b u e => hk b u e) (Nat.le_refl _) (setO_new hR), rfl, q _ c (I1.hok.fresh (Nat.le_refl _)) hcn⟩
theorem upd_upd_ne {H : Hp} {p q : Addr} {a b : HO} : True := trivial
theorem lSortset {X : Cx} {W : WX} {a : Expr} {ea : E} {p p2 pos pos2 : Pos} (g : Good U Γ X k) {x y : Str} (hx : isNm x "sorted" = true) (hg : gloB X.env.scope x = true) (hy : isNm y "set" = true) (hg2 : gloB X.env.scope y = true) (he : nost a = true) (ha : PE X a (LE U Γ W ea)) :
    PE X (.Call (.Name x p) [.Call (.Name y p2) [a] [] pos2] [] pos) (LE U Γ W (.bf .sortset (.cons ea .nil))) := by
  obtain rfl := nm_of hx
  obtain rfl := nm_of hy
  obtain ⟨h1, h2, h3⟩ := glo_of hg
  have hs := pe_setI (p := p2) (pos := pos2) g.cx.calm (glo_of hg2).1 (g.blt "set" (by decide)) (star_of he _ _) ha
  refine (pe_callB (cr_sortedSet g.cx.calm) h1 (g.blt "sorted" (by decide)) PyProof.Rows.boot_sorted (pa_cons hs pa_nil rfl) h3 h2 rfl rfl).imp fun σ H Q ⟨ρ, env, s, Q0, R0, R, E, h, c, cx⟩ => ?_
  unfold wpE wpEs wpEs at h
  refine ⟨ρ, env, s, _, R0, R, E, h, fun v s1 ρ1 H1 w q m R1 r => ?_, cx⟩
  cases v with
  | loc n =>
    unfold bfW at q
    dsimp only at q
    cases e1 : s1[n]? with
    | none => rw [e1] at q; exact False.elim q
    | some o =>
      rw [e1] at q
      cases o with
      | lst xs =>
        dsimp only at q
        cases e2 : intsOf xs with
        | none => rw [e2] at q; exact False.elim q
        | some ns =>
          rw [e2] at q
          dsimp only at q
          obtain ⟨ad, ha1, rfl⟩ := r
          obtain ⟨vs, e3, r3⟩ := R1.lst e1 ha1
          rw [intsOf_eq e2] at r3
          obtain rfl := rv_ints r3
          have hsc : ns.length + 1 < scanBound := by have := q.1; unfold scanBound; omega
          refine ⟨ad, ns, rfl, by rw [g.cx.K]; exact SqL.of e3, hsc, fun p0 cn hp hcn => ⟨p0, fun j => decide (j ∈ ns), cn, rfl, upd_same .., by have := q.1; omega, fun ms p1 hso hmem hlen hp1 => ?_⟩⟩
          have m1 : Mo ρ1 H1 ρ1 (upd H1 p0 (SetO X.w p0 (fun j => decide (j ∈ ns)) cn)) := Mo.aside hp
          exact ((c.mono m).mono m1).newL (R1.aside hp) (q.2 ms hso (fun i => by simpa using hmem i)) hp1 (ints_rv ms)
      | _ => exact False.elim q
  | _ => exact False.elim q
theorem lDnew {X : Cx} {W : WX} {pos : Pos} {b : Bool} (g : Good U Γ X k) : PE X (.Dict [] [] pos) (LE U Γ W (.dnew b)) := by
  refine ⟨fun pins sh σ H Q I ⟨ρ, env, s, Q0, R0, R, E, h, c, cx⟩ => ?_⟩
  unfold wpE at h
  have hn : H sh.heap.objs.size = none := I.hok.fresh (Nat.le_refl _)
  have eP := g.cx.P
  have ew := g.cx.w
  cases b with
  | false =>
    refine pe_dnewK.run pins sh σ H Q I fun p hp => c _ _ _ _ _ h (Mo.new hp) (R.new hp ⟨[], upd_same .., rfl, List.nodup_nil, rfl⟩) ⟨p, loc_new R, rfl⟩
  | true =>
    have hd : ∀ P w, DtpAt P w [] sh.heap.objs.size (sh.heap.push { cls := .type "dict", data := .dict #[] }) := fun P w => ⟨beq_eq_false_iff_ne.mpr (Ne.symm (Nat.ne_of_lt I.big)), _, #[], 0, Heap.get?_push_size _ rfl, ⟨rfl, rfl, rfl⟩, rfl, rfl⟩
    refine wpAny_Dict_empty ⟨.ref sh.heap.objs.size, _, I.laid (a := sh.heap.objs.size) (o := .ext (DtpAt X.prog X.w [] sh.heap.objs.size)) (t' := sh.toks) (fun _ _ q => Heap.get?_push_of_some _ q) (Nat.le_refl _) (hd X.prog X.w).obj, rfl, ?_⟩
    rw [eP, ew]
    exact c _ _ _ _ _ h (Mo.new hn) (R.new hn ⟨[], [], upd_same .., rfl, List.nodup_nil, .nil, rfl, fun x hx => nomatch hx⟩) ⟨_, loc_new R, rfl⟩
def Each (U : Wd) (Γ : Prg) (W : WX) (X : Cx) : Es → List Expr → Prop
  | .cons e r, x :: us => PE X x (LE U Γ W e) ∧ Each U Γ W X r us
  | _, _ => True
theorem ilv_all : ∀ {ks : List (Option Expr)} {vs : List Expr} {xs : List Expr}, ilv ks vs = some xs → ks.all (·.isSome) = true ∧ ks.length = vs.length
  | [], [], _, _ => ⟨rfl, rfl⟩
  | [], _ :: _, _, h => by unfold ilv at h; cases h
  | none :: _, _, _, h => by unfold ilv at h; cases h
  | some k :: ks, [], _, h => by unfold ilv at h; cases h
  | some k :: ks, v :: vs, xs, h => by
    unfold ilv at h
    split at h
    · rename_i r e
      obtain ⟨h1, h2⟩ := ilv_all e
      exact ⟨by simpa using h1, by simp [h2]⟩
    · cases h
theorem isE' {α : Type} {l : List α} (h : (!l.isEmpty) = true) : l ≠ [] := fun e => by subst e; cases h
def trsOf (U : Wd) (Γ : Prg) (W : WX) : Es → List (TE × TE)
  | .cons k (.cons v r) => (LE U Γ W k, LE U Γ W v) :: trsOf U Γ W r
  | _ => []
theorem pps_of {X : Cx} {W : WX} {N : List Str} {FL : List Nat} {sc : Scope} {pos : Pos} : ∀ {es : Es} {ks : List (Option Expr)} {vs : List Expr} {xs : List Expr}, ilv ks vs = some xs → chkEs N FL es sc xs = true → Each U Γ W X es xs → PPs X pos ks vs (trsOf U Γ W es)
  | es, [], [], xs, h, h2, h3 => by
    unfold ilv at h
    cases h
    rw [nil_of h2]
    exact pps_nil
  | es, some k :: ks, v :: vs, xs, h, h2, h3 => by
    unfold ilv at h
    split at h
    · rename_i r e
      cases h
      cases es with
      | nil => unfold chkEs at h2; cases h2
      | cons e1 r1 =>
        cases r1 with
        | nil => unfold chkEs chkEs at h2; simp at h2
        | cons e2 r2 =>
          unfold chkEs chkEs at h2
          simp only [Bool.and_eq_true] at h2
          exact pps_cons h3.1 h3.2.1 (pps_of e h2.2.2 h3.2.2)
    · cases h
  | es, [], _ :: _, _, h, _, _ => by unfold ilv at h; cases h
  | es, none :: _, _, _, h, _, _ => by unfold ilv at h; cases h
  | es, some _ :: _, [], _, h, _, _ => by unfold ilv at h; cases h
def Ev : Es → Prop
  | .nil => True
  | .cons _ .nil => False
  | .cons _ (.cons _ r) => Ev r
theorem ev_of {N : List Str} {FL : List Nat} {sc : Scope} : ∀ {es : Es} {ks : List (Option Expr)} {vs : List Expr} {xs : List Expr}, ilv ks vs = some xs → chkEs N FL es sc xs = true → Ev es
  | es, [], [], xs, h, h2 => by
    unfold ilv at h
    cases h
    rw [nil_of h2]
    exact trivial
  | es, some k :: ks, v :: vs, xs, h, h2 => by
    unfold ilv at h
    split at h
    · rename_i r e
      cases h
      cases es with
      | nil => exact trivial
      | cons e1 r1 =>
        cases r1 with
        | nil => unfold chkEs chkEs at h2; simp at h2
        | cons e2 r2 =>
          unfold chkEs chkEs at h2
          simp only [Bool.and_eq_true] at h2
          exact (ev_of e h2.2.2 : Ev r2)
    · cases h
  | es, [], _ :: _, _, h, _ => by unfold ilv at h; cases h
  | es, none :: _, _, _, h, _ => by unfold ilv at h; cases h
  | es, some _ :: _, [], _, h, _ => by unfold ilv at h; cases h
def flatP (ps : List (V × V)) : List V := ps.flatMap fun p => [p.1, p.2]
theorem pairs_of {W : WX} {σ : St} : ∀ {es : Es} {ρ : List Addr} {H : Hp} {s : MS} {env : MEnv} {R0 : QX} {F : List MV → MS → Prop} {Q : List (V × V) → Hp → Prop}, Ev es → RH U ρ H s → RE U.K ρ H env σ →
    wpEs Γ es env s F R0 → CXx U ρ H R0 (fun c d H' => W c d σ H') →
    (∀ vs s1 ρ1 H1 ps, F vs s1 → Mo ρ H ρ1 H1 → RH U ρ1 H1 s1 → RVs U.K ρ1 H1 vs (flatP ps) → Q ps H1) → tPairs (trsOf U Γ W es) σ H Q
  | .nil, ρ, H, s, env, R0, F, Q, ev, R, E, h, cx, c => by
    unfold wpEs at h
    exact c [] s ρ H [] h Mo.refl R rfl
  | .cons k .nil, ρ, H, s, env, R0, F, Q, ev, R, E, h, cx, c => ev.elim
  | .cons k (.cons v r), ρ, H, s, env, R0, F, Q, ev, R, E, h, cx, c => by
    unfold wpEs wpEs at h
    refine LE.two R E h cx fun x y s2 ρ2 H2 v w q m R2 r1 r2 => ?_
    exact pairs_of (F := fun vs s1 => F (x :: y :: vs) s1) ev R2 (E.mono m) q (cx.mono m) fun vs s1 ρ1 H1 ps q1 m1 R1 rr => c _ s1 ρ1 H1 ((v, w) :: ps) q1 (m.trans m1) R1 ⟨v, _, rfl, r1.mono m1, w, _, rfl, r2.mono m1, rr⟩
theorem disp_rv {ρ : List Addr} {H : Hp} : ∀ {vs : List MV} {ks : List (Key × MV)} {ps : List (V × V)}, dispW vs = some ks → RVs U.K ρ H vs (flatP ps) → ∃ ws : List (Key × V), ps = ws.map (fun kv => (kV kv.1, kv.2)) ∧ ws.map (·.1) = ks.map (·.1) ∧ RVs U.K ρ H (ks.map (·.2)) (ws.map (·.2))
  | [], ks, [], e, h => by unfold dispW at e; cases e; exact ⟨[], rfl, rfl, rfl⟩
  | [], ks, p :: ps, e, h => by cases (show flatP (p :: ps) = [] from h)
  | [v], ks, ps, e, h => by unfold dispW at e; cases e
  | x :: y :: vs, ks, [], e, ⟨v, r, e2, _⟩ => by cases e2
  | x :: y :: vs, ks, (a, b) :: ps, e, h => by
    obtain ⟨v, r, e2, r1, w, r', e3, r2, rr⟩ := h
    have e2' : (a :: b :: flatP ps : List V) = v :: r := e2
    cases e2'
    cases e3
    unfold dispW at e
    split at e
    · rename_i q kvs h1 h2
      cases e
      obtain ⟨ws, rfl, g1, g2⟩ := disp_rv h2 rr
      obtain rfl := leaf_rv h1 r1
      exact ⟨(q, b) :: ws, rfl, by simp [g1], b, _, rfl, r2, g2⟩
    · cases e
theorem putK_new' {k : Key} {v : V} : ∀ {kvs : List (Key × V)}, k ∉ kvs.map (·.1) → putK kvs k v = kvs ++ [(k, v)] := by
  intro kvs h
  unfold putK
  have : (kvs.any fun kv => decide (kv.1 = k)) = false := by
    rw [List.any_eq_false]
    intro p hp e
    exact h ((of_decide_eq_true e) ▸ List.mem_map_of_mem hp)
  rw [this]
  rfl
theorem merge_nd : ∀ {ws kvs : List (Key × V)}, (∀ p ∈ ws, p.1 ∉ kvs.map (·.1)) → (ws.map (·.1)).Nodup → mergeK kvs ws = kvs ++ ws
  | [], kvs, _, _ => by show kvs = _; simp
  | p :: ws, kvs, h, nd => by
    show mergeK (putK kvs p.1 p.2) ws = _
    rw [List.map_cons, List.nodup_cons] at nd
    have e : putK kvs p.1 p.2 = kvs ++ [p] := putK_new' (h p List.mem_cons_self)
    rw [e, merge_nd (fun q hq => by
      rw [List.map_append, List.mem_append]
      rintro (z | z)
      · exact h q (List.mem_cons_of_mem _ hq) z
      · have : q.1 = p.1 := by simpa using z
        exact nd.1 (this ▸ List.mem_map_of_mem hq)) nd.2]
    simp
theorem lDisp {X : Cx} {W : WX} {pos : Pos} {es : Es} {ks : List (Option Expr)} {vs : List Expr} {xs : List Expr} {N : List Str} {FL : List Nat} {sc : Scope} (g : Good U Γ X k) (hi : ilv ks vs = some xs) (h0 : ks ≠ []) (h15 : ks.length ≤ 15) (hc : chkEs N FL es sc xs = true) (he : Each U Γ W X es xs) :
    PE X (.Dict ks vs pos) (LE U Γ W (.ddisp es)) := by
  refine (pe_disp (pps_of hi hc he) (ilv_all hi).1 (ilv_all hi).2 h0 h15).imp fun σ H Q ⟨ρ, env, s, Q0, R0, R, E, h, c, cx⟩ p hp => ?_
  unfold wpE at h
  have m0 : Mo ρ H (ρ ++ [p]) (upd H p (.dK [])) := Mo.new hp
  have R1 : RH U (ρ ++ [p]) (upd H p (.dK [])) (s ++ [.dlf []]) := R.new hp ⟨[], upd_same .., rfl, List.nodup_nil, rfl⟩
  refine pairs_of (ev_of hi hc) R1 (E.mono m0) h (cx.mono m0) fun vs s1 ρ1 H1 ps q m1 R2 rr => ?_
  split at q
  · rename_i kvs e
    obtain ⟨q1, q2, q4, q3⟩ := q
    obtain ⟨ws, rfl, g1, g2⟩ := disp_rv e rr
    have ha := m1.at_ (loc_new R (p := p))
    obtain ⟨b, hb, ws0, e0, e1, _, _⟩ := R2.at_ _ _ q1
    rw [ha] at hb
    cases hb
    have : ws0 = [] := by simpa using e1
    subst this
    have hn : (ws.map (·.1)).Nodup := by rw [g1]; exact q2
    have mu : Mut (H1 p) := by rw [e0]; trivial
    have hl : ws.length ≤ 15 := by
      have := congrArg List.length g1
      simp at this
      omega
    refine ⟨e0, ws, rfl, hl, ?_⟩
    rw [merge_nd (fun _ _ z => by cases z) hn, List.nil_append]
    exact c _ _ ρ1 _ _ q3 ((m0.trans m1).trans (Mo.write mu)) (R2.write ha (List.getElem?_eq_some_iff.mp q1).1 mu ⟨ws, upd_same .., g1, q2, g2.mono (Mo.write mu)⟩) ⟨p, ha, rfl⟩
  · exact q.elim
theorem one_of {N FL} {sc : Scope} {ees : Es} {xs : List Expr} (h : chkEs N FL ees sc xs = true) (h1 : xs.length = 1) : ∃ a ea, xs = [a] ∧ ees = .cons ea .nil ∧ nost a = true ∧ chkE N FL ea sc a = true := by
  cases ees with
  | nil => cases xs with
    | nil => cases h1
    | cons _ _ => unfold chkEs at h; cases h
  | cons e r => cases xs with
    | nil => cases h1
    | cons a us =>
      cases us with
      | nil =>
        unfold chkEs at h
        simp only [Bool.and_eq_true] at h
        exact ⟨a, e, rfl, by rw [nil_of h.2], h.1.1, h.1.2⟩
      | cons _ _ => simp at h1
theorem two_of {N FL} {sc : Scope} {ees : Es} {xs : List Expr} (h : chkEs N FL ees sc xs = true) (h1 : xs.length = 2) : ∃ a b ea eb, xs = [a, b] ∧ ees = .cons ea (.cons eb .nil) := by
  cases ees with
  | nil => cases xs with
    | nil => cases h1
    | cons _ _ => unfold chkEs at h; cases h
  | cons e r => cases xs with
    | nil => cases h1
    | cons a us =>
      unfold chkEs at h
      simp only [Bool.and_eq_true] at h
      obtain ⟨b, eb, rfl, rfl, _⟩ := one_of h.2 (by simpa using h1)
      exact ⟨a, b, e, eb, rfl, rfl⟩
mutual
theorem sE : ∀ (e : E) {X : Cx} {W : WX} {x : Expr}, Good U Γ X k → Takes X W → chkE X.N U.FL e X.env.scope x = true → PE X x (LE U Γ W e) ∧ PT X x (tB (LE U Γ W e))
  | .var i, X, W, x, g, tk, h => by
    unfold chkE at h
    split at h
    · simp only [Bool.and_eq_true, decide_eq_true_eq] at h
      exact both (lVar h.1 h.2) fun _ => rfl
    · cases h
  | .non, X, W, x, g, tk, h => by
    unfold chkE at h
    split at h
    · exact both (lCon (mv := .non) pe_non (fun σ s Q R w => by unfold wpE at w; exact w) fun _ _ => rfl) fun _ => rfl
    · cases h
  | .bl b, X, W, x, g, tk, h => by
    unfold chkE at h
    split at h
    · obtain rfl := eq_of_beq h
      exact both (lCon (mv := .bl _) pe_bl (fun σ s Q R w => by unfold wpE at w; exact w) fun _ _ => rfl) fun _ => rfl
    · cases h
  | .int i, X, W, x, g, tk, h => by
    unfold chkE at h
    split at h
    · obtain rfl := of_decide_eq_true h
      exact both (lCon (mv := .int _) pe_int (fun σ s Q R w => by unfold wpE at w; exact w) fun _ _ => rfl) fun _ => rfl
    · cases h
  | .str i, X, W, x, g, tk, h => by
    unfold chkE at h
    split at h
    · obtain rfl := of_decide_eq_true h
      exact both (lCon (mv := .str _) pe_str (fun σ s Q R w => by unfold wpE at w; exact w) fun _ _ => rfl) fun _ => rfl
    · cases h
  | .glo i y, X, W, x, g, tk, h => by
    unfold chkE at h
    split at h
    · simp only [Bool.and_eq_true, decide_eq_true_eq] at h
      obtain ⟨⟨rfl, h2⟩, h3⟩ := h
      obtain ⟨t, ht⟩ := g.con _ h3
      exact both (lCon (mv := .str y) (pe_glob (v := V.str y) (glo_of h2).1 ht ⟨t, rfl⟩ (glo_of h2).2.1) (fun σ s Q R w => by unfold wpE at w; exact w) fun _ _ => rfl) fun _ => rfl
    · cases h
  | .tup es, X, W, x, g, tk, h => by
    unfold chkE at h
    split at h
    · exact both (lTup (sEs es g tk h).1) fun _ => rfl
    · cases h
  | .lst es, X, W, x, g, tk, h => by
    unfold chkE at h
    split at h
    · exact both (lLst (sEs es g tk h).1) fun _ => rfl
    · cases h
  | .dnew b, X, W, x, g, tk, h => by
    unfold chkE at h
    split at h
    · exact both (lDnew g) fun _ => rfl
    · cases h
  | .ddisp es, X, W, x, g, tk, h => by
    unfold chkE at h
    split at h
    · split at h
      · rename_i xs e
        simp only [Bool.and_eq_true, decide_eq_true_eq] at h
        exact both (lDisp g e (isE' h.1.1) h.1.2 h.2 (sEs es g tk h.2).2) fun _ => rfl
      · cases h
    · cases h
  | .bin o a b, X, W, x, g, tk, h => by
    unfold chkE at h
    split at h
    · simp only [Bool.and_eq_true] at h
      exact both (lBin h.1.1 (sE a g tk h.1.2).1 (sE b g tk h.2).1) fun _ => rfl
    · cases h
  | .neg a, X, W, x, g, tk, h => by
    unfold chkE at h
    split at h
    · exact both (lNeg (sE a g tk h).1) fun _ => rfl
    · cases h
  | .cmp o a b, X, W, x, g, tk, h => by
    unfold chkE at h
    split at h
    · simp only [Bool.and_eq_true] at h
      exact ⟨lCmp g.cx h.1.1.1 h.1.1.2 (sE a g tk h.1.2).1 (sE b g tk h.2).1, tCmp' g.cx h.1.1.1 h.1.1.2 (sE a g tk h.1.2).1 (sE b g tk h.2).1⟩
    · cases h
  | .chn o q a b c, X, W, x, g, tk, h => by
    unfold chkE at h
    split at h
    · simp only [Bool.and_eq_true] at h
      obtain ⟨⟨⟨⟨⟨⟨h1, h2⟩, h3⟩, h4⟩, h5⟩, h6⟩, h7⟩ := h
      exact ⟨lChn g.cx h1 h2 h4 (sE a g tk h5).1 (sE b g tk h6).1 (sE c g tk h7).1, tChn g.cx h1 h2 h4 (sE a g tk h5).1 (sE b g tk h6).1 (sE c g tk h7).1⟩
    · cases h
  | .and_ a b, X, W, x, g, tk, h => by
    unfold chkE at h
    split at h
    · simp only [Bool.and_eq_true] at h
      have ha := sE a g tk h.1
      have hb := sE b g tk h.2
      exact ⟨(pe_and ha.1 (pe_one hb.1)).imp fun σ H Q q => lAnd0 q, ((pw_and ha.2 (pw_and1 hb.2)).pt).imp fun σ H Q q => tAndL q⟩
    · simp only [Bool.and_eq_true] at h
      have ha := sE a g tk h.1
      have hb := sE b g tk h.2
      exact ⟨(pe_and ha.1 hb.1).imp fun σ H Q q => lAnd0 q, ((pw_and ha.2 (pw_of hb.2)).pt).imp fun σ H Q q => tAndL q⟩
    · cases h
  | .or_ a b, X, W, x, g, tk, h => by
    unfold chkE at h
    split at h
    · simp only [Bool.and_eq_true] at h
      have ha := sE a g tk h.1
      have hb := sE b g tk h.2
      exact ⟨(pe_or ha.1 (pe_one hb.1)).imp fun σ H Q q => lOr0 q, ((pw_or ha.2 (pw_or1 hb.2)).pt).imp fun σ H Q q => tOrL q⟩
    · simp only [Bool.and_eq_true] at h
      have ha := sE a g tk h.1
      have hb := sE b g tk h.2
      exact ⟨(pe_or ha.1 hb.1).imp fun σ H Q q => lOr0 q, ((pw_or ha.2 (pw_of hb.2)).pt).imp fun σ H Q q => tOrL q⟩
    · cases h
  | .not_ a, X, W, x, g, tk, h => by
    unfold chkE at h
    split at h
    · have ha := sE a g tk h
      exact ⟨lNot ha.1, tNot' ha.2⟩
    · cases h
  | .ite a b c, X, W, x, g, tk, h => by
    unfold chkE at h
    split at h
    · simp only [Bool.and_eq_true] at h
      have ha := sE a g tk h.1.1
      have hb := sE b g tk h.1.2
      have hc := sE c g tk h.2
      exact ⟨lIte ha.2 hb.1 hc.1, tIte ha.2 hb.2 hc.2⟩
    · cases h
  | .fld a f, X, W, x, g, tk, h => by
    unfold chkE at h
    split at h
    · simp only [Bool.and_eq_true, decide_eq_true_eq] at h
      obtain ⟨⟨⟨rfl, h2⟩, h3⟩, h4⟩ := h
      exact both (lFld g h2 h3 (sE a g tk h4).1) fun _ => rfl
    · cases h
  | .ix a b, X, W, x, g, tk, h => by
    unfold chkE at h
    split at h
    · simp only [Bool.and_eq_true] at h
      exact both (lIx g.cx h.1.1 (sE a g tk h.1.2).1 (sE b g tk h.2).1) fun _ => rfl
    · cases h
  | .sl a lo hi, X, W, x, g, tk, h => by
    unfold chkE at h
    split at h
    · simp only [Bool.and_eq_true] at h
      exact both (lSl g.cx (sE a g tk h.1.1).1 (sO lo g tk h.1.2) (sO hi g tk h.2)) fun _ => rfl
    · cases h
  | .call f es, X, W, x, g, tk, h => by
    unfold chkE at h
    split at h
    · simp only [Bool.and_eq_true, decide_eq_true_eq] at h
      obtain ⟨⟨⟨h1, h2⟩, h3⟩, h4⟩ := h
      exact both (lCall g tk h1 h2 (isE h3) (LEs.len h4) (sEs es g tk h4).1) fun _ => rfl
    · cases h
  | .make c es, X, W, x, g, tk, h => by
    unfold chkE at h
    split at h
    · simp only [Bool.and_eq_true, decide_eq_true_eq] at h
      obtain ⟨⟨h1, h2⟩, h4⟩ := h
      exact both (lMake g tk h1 h2 (LEs.len h4) (fun z => by subst z; exact nil_of h4) (sEs es g tk h4).1) fun _ => rfl
    · cases h
  | .meth a m es, X, W, x, g, tk, h => by
    unfold chkE at h
    split at h
    · simp only [Bool.and_eq_true, decide_eq_true_eq, List.all_eq_true, Bool.not_eq_true', decide_eq_false_iff_not] at h
      obtain ⟨⟨⟨⟨⟨⟨rfl, h2⟩, h3⟩, h4⟩, h5⟩, h6⟩, h7⟩ := h
      exact both (lMeth g tk h5 h4 h3 h2 (LEs.len h7) (fun z => by subst z; exact nil_of h7) (sE a g tk h6).1 (sEs es g tk h7).1) fun _ => rfl
    · cases h
  | .sup c m es, X, W, x, g, tk, h => by
    unfold chkE at h
    split at h
    · simp only [Bool.and_eq_true, decide_eq_true_eq] at h
      obtain ⟨⟨⟨⟨⟨⟨h1, h2⟩, h3⟩, h4⟩, rfl⟩, h0⟩, h6⟩ := h
      exact both (lSup g tk h3 h0 h4 h2 h1 (LEs.len h6) (fun z => by subst z; exact nil_of h6) (sEs es g tk h6).1) fun _ => rfl
    · cases h
  | .bf f es, X, W, x, g, tk, h => by
    unfold chkE at h
    split at h
    · -- lrange
      split at h
      · simp only [Bool.and_eq_true, decide_eq_true_eq] at h
        obtain ⟨⟨⟨⟨⟨h1, h2⟩, h3⟩, h4⟩, h5⟩, h6⟩ := h
        have hs := sEs es g tk h6
        obtain ⟨a, ea, rfl, rfl, h7, h8⟩ := one_of h6 h5
        exact both (lLrange g h1 h2 h3 h4 h7 hs.2.1) fun _ => rfl
      · cases h
    · split at h
      · simp only [Bool.and_eq_true, decide_eq_true_eq] at h
        obtain ⟨⟨⟨⟨⟨h1, h2⟩, h3⟩, h4⟩, h5⟩, h6⟩ := h
        have hs := sEs es g tk h6
        obtain ⟨a, ea, rfl, rfl, h7, h8⟩ := one_of h6 h5
        exact both (lTuprev g h1 h2 h3 h4 h7 hs.2.1) fun _ => rfl
      · cases h
    · split at h
      · simp only [Bool.and_eq_true, decide_eq_true_eq] at h
        obtain ⟨⟨⟨⟨⟨h1, h2⟩, h3⟩, h4⟩, h5⟩, h6⟩ := h
        have hs := sEs es g tk h6
        obtain ⟨a, ea, rfl, rfl, h7, h8⟩ := one_of h6 h5
        exact both (lSortset g h1 h2 h3 h4 h7 hs.2.1) fun _ => rfl
      · cases h
    · cases h
    · cases h
    · split at h
      · simp only [Bool.and_eq_true] at h
        obtain ⟨⟨⟨h1, h2⟩, h3⟩, h4⟩ := h
        exact both (lBf g (by cases f <;> first | contradiction | exact fun z => nomatch z) (by intro z; subst z; contradiction) h1 h2 (isE h3) (LEs.len h4) (sEs es g tk h4).1) fun _ => rfl
      · cases h
  | .bm m a es, X, W, x, g, tk, h => by
    unfold chkE at h
    split at h
    · cases h
    · split at h
      · simp only [Bool.and_eq_true, decide_eq_true_eq] at h
        obtain ⟨⟨⟨⟨⟨⟨h1, h2⟩, h3⟩, h4⟩, h5⟩, h6⟩, h7⟩ := h
        exact both (lBm g h1 h2 h5 h4 h3 (LEs.len h7) (fun z => by subst z; exact nil_of h7) (sE a g tk h6).1 (sEs es g tk h7).1) fun _ => rfl
      · cases h
  | .lc elt tg it tst vs, X, W, x, g, tk, h => by
    unfold chkE at h
    split at h
    · simp only [Bool.and_eq_true] at h
      obtain ⟨⟨⟨⟨⟨⟨⟨h1, h2⟩, h3⟩, h4⟩, h5⟩, h6⟩, h7⟩, h8⟩ := h
      have ho := (⟨blkOk_by h4, fun s H C cl fp => sTgk (X := X.blk s H _ _ fp) g.cx.K g.cx.calm g.nd (fun x hx => blk_st hx) vs tg _ h5 h6,
        fun s H C cl fp => sT tst (X := X.blk s H _ _ fp) (g.blk ..) h7, fun s H C cl fp => (sE elt (X := X.blk s H _ _ fp) (g.blk ..) takes_no h8).1⟩ : LcOk U Γ X tg tst elt vs _ _ _ _)
      cases it with
      | dk e => exact both (lLcD g ho (sI (.dk e) g tk h3 h2) h1) fun _ => rfl
      | seq e => exact both (lLc g (fun _ z => nomatch z) ho (sI (.seq e) g tk h3 h2) h1) fun _ => rfl
      | rng e => exact both (lLc g (fun _ z => nomatch z) ho (sI (.rng e) g tk h3 h2) h1) fun _ => rfl
      | enm e => exact both (lLc g (fun _ z => nomatch z) ho (sI (.enm e) g tk h3 h2) h1) fun _ => rfl
    · cases h
  | .isi a kk, X, W, x, g, tk, h => by
    unfold chkE at h
    split at h
    · simp only [Bool.and_eq_true] at h
      obtain ⟨⟨⟨⟨⟨⟨h1, h2⟩, h3⟩, h4⟩, h5⟩, h6⟩, h7⟩ := h
      exact both (lIsi g (fun n z => by subst z; cases h1) h2 h3 h4 (sE a g tk h5).1 h6 h7) fun _ => rfl
    · cases h
  | .fst ps, X, W, x, g, tk, h => by
    unfold chkE at h
    split at h
    · rename_i xs pos
      simp only [Bool.and_eq_true, decide_eq_true_eq] at h
      obtain ⟨ts, hj, hq⟩ := sF ps (W := W) g tk h.2
      refine both ?_ fun _ => rfl
      match xs, h.1, hj with
      | v1 :: v2 :: rest, _, hj =>
        exact (pe_joined hj).imp fun σ H Q ⟨ρ, env, s, Q0, R0, R, E, w, c, cx⟩ => by
          unfold wpE at w
          exact hq _ ρ env s _ R0 σ H _ R E w (fun z s' ρ' H' q m R' => c (.str z) s' ρ' H' _ q m R' rfl) cx
    · cases h
theorem sF : ∀ (e : Es) {X : Cx} {W : WX} {x : List Expr}, Good U Γ X k → Takes X W → chkF X.N U.FL e X.env.scope x = true → ∃ ts, PJ X x ts ∧ ∀ (acc : Str) (ρ : List Addr) (env : MEnv) (s : MS) (Q0 : Str → MS → Prop) (R0 : QX) (σ : St) (H : Hp) (Q : Str → Hp → Prop), RH U ρ H s → RE U.K ρ H env σ → wpF Γ e acc env s Q0 R0 →
    (∀ z s' ρ' H', Q0 z s' → Mo ρ H ρ' H' → RH U ρ' H' s' → Q z H') → CXx U ρ H R0 (fun c d H' => W c d σ H') → tJs ts acc σ H Q
  | .nil, X, W, x, g, tk, h => by
    unfold chkF at h
    split at h
    · refine ⟨[], .nil, fun acc ρ env s Q0 R0 σ H Q R E w c cx => ?_⟩
      unfold wpF at w
      exact c acc s ρ H w Mo.refl R
    · cases h
  | .cons e r, X, W, x, g, tk, h => by
    unfold chkF at h
    split at h
    · simp only [Bool.and_eq_true] at h
      obtain ⟨ts, hj, hq⟩ := sF r (W := W) g tk h.2
      refine ⟨_, .cons (pe_fmt (sE e g tk h.1).1) hj, fun acc ρ env s Q0 R0 σ H Q R E w c cx => ?_⟩
      unfold wpF at w
      refine ⟨ρ, env, s, _, R0, R, E, w, fun v s1 ρ1 H1 x q m R1 r1 => ?_, cx⟩
      cases v with
      | str y =>
        dsimp only [fmt1] at q
        by_cases hy : y.length ≤ sizeLine
        · rw [if_pos hy] at q
          exact .inl ⟨y, r1, hy, y, rfl, q.1, hq _ ρ1 env s1 Q0 R0 σ H1 Q R1 (E.mono m) q.2 (fun z s' ρ' H' q' m' R' => c z s' ρ' H' q' (m.trans m') R') (cx.mono m)⟩
        · rw [if_neg hy] at q
          exact False.elim q
      | int i =>
        dsimp only [fmt1] at q
        by_cases hy : i.natAbs.log2 < 1920
        · rw [if_pos hy] at q
          exact .inr ⟨i, r1, hy, _, rfl, q.1, hq _ ρ1 env s1 Q0 R0 σ H1 Q R1 (E.mono m) q.2 (fun z s' ρ' H' q' m' R' => c z s' ρ' H' q' (m.trans m') R') (cx.mono m)⟩
        · rw [if_neg hy] at q
          exact False.elim q
      | _ => exact False.elim q
    · simp only [Bool.and_eq_true] at h
      obtain ⟨ts, hj, hq⟩ := sF r (W := W) g tk h.2
      cases e with
      | str d =>
        obtain rfl := of_decide_eq_true h.1
        refine ⟨_, .cons pe_str hj, fun acc ρ env s Q0 R0 σ H Q R E w c cx => ?_⟩
        unfold wpF wpE at w
        dsimp only [fmt1] at w
        by_cases hy : d.length ≤ sizeLine
        · rw [if_pos hy] at w
          exact ⟨d, rfl, w.1, hq _ ρ env s Q0 R0 σ H Q R E w.2 c cx⟩
        · rw [if_neg hy] at w
          exact False.elim w
      | _ => cases h.1
    · cases h
theorem sEs : ∀ (e : Es) {X : Cx} {W : WX} {x : List Expr}, Good U Γ X k → Takes X W → chkEs X.N U.FL e X.env.scope x = true → PA X x (LEs U Γ W e) ∧ Each U Γ W X e x
  | .nil, X, W, x, g, tk, h => by
    unfold chkEs at h
    split at h
    · exact ⟨pa_nil.imp fun σ H Q ⟨ρ, env, s, Q0, R0, R, E, h, c, cx⟩ => by
        unfold wpEs at h
        exact c [] s ρ H [] h Mo.refl R rfl, trivial⟩
    · cases h
  | .cons e r, X, W, x, g, tk, h => by
    unfold chkEs at h
    split at h
    · simp only [Bool.and_eq_true] at h
      have h1 := (sE e (W := W) g tk h.1.2).1
      have h2 := sEs r (W := W) g tk h.2
      exact ⟨(pa_cons h1 h2.1 (star_of h.1.1 _ _)).imp fun σ H Q ⟨ρ, env, s, Q0, R0, R, E, h, c, cx⟩ => by
        unfold wpEs at h
        exact ⟨ρ, env, s, _, R0, R, E, h, fun v s1 ρ1 H1 x q m R1 r1 => ⟨ρ1, env, s1, _, R0, R1, E.mono m, q, fun vs s2 ρ2 H2 xs q2 m2 R2 r2 => c _ s2 ρ2 H2 _ q2 (m.trans m2) R2 ⟨_, _, rfl, r1.mono m2, r2⟩, cx.mono m⟩, cx⟩, h1, h2.2⟩
    · cases h
theorem sO : ∀ (e : Eo) {X : Cx} {W : WX} {x : Option Expr}, Good U Γ X k → Takes X W → chkO X.N U.FL e X.env.scope x = true → PO X x (LO U Γ W e)
  | .no, X, W, x, g, tk, h => by
    unfold chkO at h
    split at h
    · exact lO0
    · cases h
  | .so e, X, W, x, g, tk, h => by
    unfold chkO at h
    split at h
    · simp only [Bool.and_eq_true] at h
      exact lO1 (sE e g tk h.2).1
    · cases h
theorem sT : ∀ (e : Eo) {X : Cx} {x : List Expr}, Good U Γ X k → chkT X.N U.FL e X.env.scope x = true → PTs X x (LT U Γ e)
  | .no, X, x, g, h => by
    unfold chkT at h
    split at h
    · exact ⟨fun pins s σ H Q I ⟨ρ, env, st, k0, R, E, w, q⟩ => pts_nil.run pins s σ H Q I (by unfold wpT at w; exact q true st ρ H w Mo.refl R)⟩
    · cases h
  | .so e, X, x, g, h => by
    unfold chkT at h
    split at h
    · refine ⟨fun pins s σ H Q I ⟨ρ, env, st, k0, R, E, w, q⟩ => (pts_one (sE e (W := Wno) g takes_no h).2).run pins s σ H Q I ?_⟩
      unfold wpT at w
      refine ⟨ρ, env, st, _, _, R, E, w, fun v s1 ρ1 H1 x q1 m R1 r1 => ?_, CXx.no fun _ _ z => z⟩
      cases v with
      | bl b => exact ⟨b, r1, q b s1 ρ1 H1 q1 m R1⟩
      | _ => exact False.elim q1
    · cases h
theorem sI : ∀ (e : It) {X : Cx} {W : WX} {tg x : Expr}, Good U Γ X k → Takes X W → chkI X.N U.FL e X.env.scope x = true → enmOk e tg = true → (match e with
    | .dk ed => PE X x (LE U Γ W ed)
    | _ => PI X tg x (LI U Γ W e))
  | .seq e, X, W, tg, x, g, tk, h, _ => by
    unfold chkI at h
    exact iSeq g.cx.K (sE e g tk h).1
  | .rng es, X, W, tg, x, g, tk, h, _ => by
    unfold chkI at h
    split at h
    · simp only [Bool.and_eq_true] at h
      obtain ⟨⟨⟨h1, h2⟩, h3⟩, h4⟩ := h
      have hs := sEs es (W := W) g tk h4
      have hn := LEs.len h4
      simp only [Bool.or_eq_true, decide_eq_true_eq] at h3
      rcases h3 with h3 | h3
      · obtain ⟨a, ea, rfl, rfl, h7, h8⟩ := one_of h4 h3
        exact iRngA g h1 h2 h7 hs.2.1
      · obtain ⟨a, b, ea, eb, rfl, rfl⟩ := two_of h4 h3
        simp only [List.all_cons, Bool.and_eq_true] at hn
        exact iRngB g h1 h2 hn.1 hn.2.1 hs.2.1 hs.2.2.1
    · cases h
  | .enm e, X, W, tg, x, g, tk, h, ho => by
    unfold chkI at h
    split at h
    · simp only [Bool.and_eq_true] at h
      obtain ⟨⟨⟨h1, h2⟩, h3⟩, h4⟩ := h
      cases tg with
      | Tuple _ _ _ => exact iEnm g h1 h2 h3 (sE e g tk h4).1
      | _ => cases ho
    · cases h
  | .dk e, X, W, tg, x, g, tk, h, _ => by
    unfold chkI at h
    exact (sE e g tk h).1
end
end
end Ly
/-! Lay, part F: statements, defs. -/
namespace Ly
open PySem L2
open PyProof.Rows hiding St
section
variable {U : Wd} {Γ : Prg} {k : Nat} {X : Cx} {W : WX} {ρ ρ' ρ'' : List Addr} {H H' H'' : Hp} {s : MS}
/-- what is wanted behind a statement -/
structure CD (U : Wd) (ρ : List Addr) (H : Hp) (D0 : MD) (D : Ends) (W : WX) : Prop where
  nx : ∀ env s' ρ' H' σ, D0.nx env s' → Mo ρ H ρ' H' → RH U ρ' H' s' → RE U.K ρ' H' env σ → D.nx σ H'
  rt : CV U ρ H D0.rt D.rt
  bk : ∀ env s' ρ' H' σ, D0.bk env s' → Mo ρ H ρ' H' → RH U ρ' H' s' → RE U.K ρ' H' env σ → D.bk σ H'
  ct : ∀ env s' ρ' H' σ, D0.ct env s' → Mo ρ H ρ' H' → RH U ρ' H' s' → RE U.K ρ' H' env σ → D.ct σ H'
  ex : ∀ x env s' ρ' H' σ c d, D0.ex x env s' → Mo ρ H ρ' H' → RH U ρ' H' s' → RE U.K ρ' H' env σ → RX U.K ρ' H' x c d → W c d σ H'
theorem CD.mono {D0 : MD} {D : Ends} (m : Mo ρ H ρ' H') (c : CD U ρ H D0 D W) : CD U ρ' H' D0 D W :=
  ⟨fun env s' ρ2 H2 σ q m2 => c.nx env s' ρ2 H2 σ q (m.trans m2), c.rt.mono m, fun env s' ρ2 H2 σ q m2 => c.bk env s' ρ2 H2 σ q (m.trans m2), fun env s' ρ2 H2 σ q m2 => c.ct env s' ρ2 H2 σ q (m.trans m2), fun x env s' ρ2 H2 σ cc d q m2 => c.ex x env s' ρ2 H2 σ cc d q (m.trans m2)⟩
theorem CD.cx {D0 : MD} {D : Ends} (c : CD U ρ H D0 D W) {env : MEnv} {σ : St} (E : RE U.K ρ H env σ) : CXx U ρ H (fun x s1 => D0.ex x env s1) (fun c d H' => W c d σ H') :=
  fun x s' ρ' H' cc d q m R r => c.ex x env s' ρ' H' σ cc d q m R (E.mono m) r
def LS (U : Wd) (Γ : Prg) (W : WX) (st : S) : TS := fun D σ H => ∃ ρ env s D0, RH U ρ H s ∧ RE U.K ρ H env σ ∧ wpS Γ st env s D0 ∧ CD U ρ H D0 D W
def LSs (U : Wd) (Γ : Prg) (W : WX) (st : Ss) : TS := fun D σ H => ∃ ρ env s D0, RH U ρ H s ∧ RE U.K ρ H env σ ∧ wpSs Γ st env s D0 ∧ CD U ρ H D0 D W
theorem _root_.L2.PS.imp {X : Cx} {e : Stmt} {t t' : TS} (h : PS X e t) (hi : ∀ D σ H, t' D σ H → t D σ H) : PS X e t' := ⟨fun pins s σ H D I q => h.run pins s σ H D I (hi D σ H q)⟩
theorem _root_.L2.PSs.imp {X : Cx} {e : List Stmt} {t t' : TS} (h : PSs X e t) (hi : ∀ D σ H, t' D σ H → t D σ H) : PSs X e t' := ⟨fun pins s σ H D I q => h.run pins s σ H D I (hi D σ H q)⟩
/-- what a body's context must have for statements -/
structure StC (X : Cx) (W : WX) : Prop where
  fn : ∀ x, X.fn x = true
  kind : X.env.scope.kind = .function
  po : PassesOwn (model X.prog X.w) X.A X.env X.xe
  tk : Takes X W
theorem st_ok (c : StC X W) {x : Str} (h : locB X.env.scope x = true) : StB X x := ⟨loc_of h, .inl (c.fn x)⟩
theorem swap_no {e : Expr} (h : noLc e = true) (t : Option Expr) (l : Nat) (env : Env) : swapsWith e t l env = pure false := by
  cases e <;> first | (cases h; done) | rfl
theorem sole_no {t e : Expr} (h : noLc e = true) (l : Nat) (env : Env) : swapsWithSole [t] e l env = pure false := swap_no h _ _ _
theorem swap_at {e o : Expr} {f : Str} {p : Pos} (l : Nat) (env : Env) : swapsWith e (some (.Attribute o f p)) l env = pure false := by
  cases e <;> rfl
theorem asg_sub {o i : Expr} {pos : Pos} {env : Env} (h : nost i = true) (v : Value) : assign (.Subscript o i pos) env v = (do
      let ov ← holding [v] (eval o env)
      let iv ← holding [v, ov] (eval i env)
      standAt pos
      holding [v, ov, iv] (setItem ov iv v)
      release [v, ov, iv] []) := by
  cases i <;> first | (cases h; done) | rfl
theorem one_each {t : Expr} {env : Env} (h : nost t = true) : (assignEach [t] env).map (·.2) = [assign t env] := by
  cases t <;> first | (cases h; done) | rfl
/-- targets ahead of the end -/
theorem tg_end {tg : Tg} {x : V} {mv : MV} {env : MEnv} {σ : St} {D0 : MD} {D : Ends} (R : RH U ρ H s) (E : RE U.K ρ H env σ) (r : RV U.K ρ H mv x) (q : tgW tg mv env s fun env1 => D0.nx env1 s) (c : CD U ρ H D0 D W) : LG U tg x σ H D.nx :=
  ⟨ρ, env, s, mv, _, R, E, r, q, fun env' σ' q' E' => c.nx env' s ρ H σ' q' Mo.refl R E'⟩
theorem nm_end {i : Nat} {x : V} {mv : MV} {env : MEnv} {σ : St} {D0 : MD} {D : Ends} (R : RH U ρ H s) (E : RE U.K ρ H env σ) (r : RV U.K ρ H mv x) (q : tgW (.nm i) mv env s fun env1 => D0.nx env1 s) (c : CD U ρ H D0 D W) : gName i x σ H D.nx := by
  unfold tgW at q
  exact c.nx _ s ρ H _ q Mo.refl R (E.set r)
theorem lAsg {ee : E} {tg : Tg} {t : TG} {D : Ends} {σ : St} (hg : ∀ {ρ : List Addr} {H : Hp} {s : MS} {x : V} {mv : MV} {env : MEnv} {D0 : MD}, RH U ρ H s → RE U.K ρ H env σ → RV U.K ρ H mv x → (tgW tg mv env s fun env1 => D0.nx env1 s) → CD U ρ H D0 D W → t x σ H D.nx)
    (h : LS U Γ W (.asg tg ee) D σ H) : tAsg (LE U Γ W ee) t D σ H := by
  obtain ⟨ρ, env, s, D0, R, E, h, c⟩ := h
  unfold wpS at h
  exact ⟨ρ, env, s, _, _, R, E, h, fun v s1 ρ1 H1 x q m R1 r => hg R1 (E.mono m) r q (c.mono m), c.cx E⟩
/-! ### fields -/
theorem putM_put {FL : List Nat} (inj : (FL.map nmOf).Nodup) {f : Nat} (hf : f ∈ FL) {v : MV} {x : V} (rx : RV U.K ρ H v x) : ∀ {fs : List (Nat × MV)} {ws : List (Str × V)}, ws.map (·.1) = fs.map (fun p => nmOf p.1) → RVs U.K ρ H (fs.map (·.2)) (ws.map (·.2)) → (∀ p ∈ fs, p.1 ∈ FL) →
    (putF (nmOf f) x ws).map (·.1) = (putM f v fs).map (fun p => nmOf p.1) ∧ RVs U.K ρ H ((putM f v fs).map (·.2)) ((putF (nmOf f) x ws).map (·.2)) ∧ ∀ p ∈ putM f v fs, p.1 ∈ FL
  | [], [], _, _, _ => ⟨rfl, ⟨x, [], rfl, rx, rfl⟩, fun p hp => by
    unfold putM at hp
    have : p = (f, v) := by simpa using hp
    rw [this]
    exact hf⟩
  | [], _ :: _, e, _, _ => by simp at e
  | (q, u) :: r, [], e1, _, _ => by simp at e1
  | (q, u) :: r, (y, w) :: ws, e1, ⟨w', r', e2, h1, h2⟩, hm => by
    simp only [List.map_cons, List.cons.injEq] at e1 e2
    unfold putM putF
    by_cases hq : q = f
    · subst hq
      rw [if_pos rfl, if_pos (by rw [e1.1])]
      refine ⟨by simp [e1.1, e1.2], ⟨x, _, rfl, rx, by rw [e2.2]; exact h2⟩, fun p hp => ?_⟩
      rcases List.mem_cons.mp hp with e | hp
      · rw [e]; exact hf
      · exact hm p (List.mem_cons_of_mem _ hp)
    · have hne : nmOf q ≠ nmOf f := fun z => by
        have hqm := hm (q, u) List.mem_cons_self
        obtain ⟨i, hi⟩ := List.mem_iff_getElem?.mp hqm
        obtain ⟨j, hj⟩ := List.mem_iff_getElem?.mp hf
        have := nodup_ix inj (i := i) (j := j) (x := nmOf f) (by rw [List.getElem?_map, hi]; simp [z]) (by rw [List.getElem?_map, hj]; rfl)
        subst this
        rw [hi] at hj
        exact hq (Option.some.inj hj)
      rw [if_neg hq, if_neg (by rw [e1.1]; exact hne)]
      obtain ⟨g1, g2, g3⟩ := putM_put inj hf rx e1.2 (by rw [e2.2]; exact h2) (fun p hp => hm p (List.mem_cons_of_mem _ hp))
      refine ⟨by simp [e1.1, g1], ⟨w, _, rfl, by rw [e2.1]; exact h1, g2⟩, fun p hp => ?_⟩
      rcases List.mem_cons.mp hp with e | hp
      · rw [e]; exact hm (q, u) List.mem_cons_self
      · exact g3 p hp
theorem len_map2 {fs : List (Nat × MV)} {ws : List (Str × V)} (e : ws.map (·.1) = fs.map (fun p => nmOf p.1)) : ws.length = fs.length := by have := congrArg List.length e; simpa using this
theorem lSetf (g : Good U Γ X k) {f : Nat} (hf : U.FL.contains f = true) {eo ee : E} {D : Ends} {σ : St} (h : LS U Γ W (.setf eo f ee) D σ H) : sFld X.K (LE U Γ W eo) (LE U Γ W ee) (nmOf f) D σ H := by
  obtain ⟨ρ, env, s, D0, R, E, h, c⟩ := h
  unfold wpS at h
  refine LE.two R E h (c.cx E) fun v x s2 ρ2 H2 y xv q m R2 r1 r2 => ?_
  unfold setfW at q
  dsimp only at q
  cases x with
  | loc n =>
    dsimp only at q
    split at q
    · rename_i cc fs e1
      obtain ⟨ad, h1, rfl⟩ := r2
      obtain ⟨ad', h2, dx, ws, h3, h4, h5, h6, h7⟩ := R2.at_ _ _ e1
      rw [h1] at h2
      cases h2
      have hfm : f ∈ U.FL := by simpa using hf
      have mu : Mut (H2 ad) := by rw [h3]; trivial
      have m2 : Mo ρ2 H2 ρ2 (upd H2 ad (.ins (clA U.K cc) dx (putF (nmOf f) y ws))) := Mo.write mu
      obtain ⟨g1, g2, g3⟩ := putM_put g.inj hfm (r1.mono m2) h4 (h5.mono m2) h7
      refine ⟨ad, _, dx, ws, rfl, h3, ?_, ?_, by rw [len_map2 h4]; exact q.1, ?_⟩
      · rw [g.cx.K]; exact h6.cls
      · rw [g.cx.K]; exact h6.no f hfm
      · exact c.nx env _ ρ2 _ σ q.2 (m.trans m2) (R2.write h1 (List.getElem?_eq_some_iff.mp e1).1 mu ⟨dx, _, upd_same .., g1, g2, h6, g3⟩) ((E.mono m).mono m2)
    · exact q.elim
  | _ => exact False.elim q
theorem lSeti {eo ei ee : E} {D : Ends} {σ : St} (h : LS U Γ W (.seti eo ei ee) D σ H) : tAsg (LE U Γ W ee) (gSub (LE U Γ W eo) (LE U Γ W ei) (L3s U)) D σ H := by
  obtain ⟨ρ, env, s, D0, R, E, h, c⟩ := h
  unfold wpS at h
  refine ⟨ρ, env, s, _, _, R, E, h, fun v s1 ρ1 H1 x q m R1 r => ?_, c.cx E⟩
  refine LE.two R1 (E.mono m) q ((c.cx E).mono m) fun o i s2 ρ2 H2 y z q2 m2 R2 r2 r3 => ?_
  exact ⟨ρ2, s2, o, i, v, _, R2, r2, r3, r.mono m2, q2, fun s' ρ' H' q' m' R' => c.nx env s' ρ' H' σ q' ((m.trans m2).trans m') R' (((E.mono m).mono m2).mono m')⟩
theorem lAug {i : Nat} {ee : E} {D : Ends} {σ : St} (h : LS U Γ W (.aug i ee) D σ H) : tAug i (LE U Γ W ee) (ipI fun i j => i + j) D σ H := by
  obtain ⟨ρ, env, s, D0, R, E, h, c⟩ := h
  unfold wpS at h
  split at h
  · rename_i a e
    obtain ⟨x, e1, r⟩ := E.at_ i _ e
    obtain rfl : x = _ := r
    refine ⟨_, e1, ρ, env, s, _, _, R, E, h, fun v s1 ρ1 H1 y q m R1 r1 => ?_, c.cx E⟩
    cases v with
    | int b => exact ⟨a, b, rfl, r1, c.nx _ s1 ρ1 H1 _ q m R1 ((E.mono m).set (x := .int (a + b)) rfl)⟩
    | _ => exact False.elim q
  · exact h.elim
theorem lIf {et : E} {sa sb : Ss} {D : Ends} {σ : St} (h : LS U Γ W (.ife et sa sb) D σ H) : tIfS (tB (LE U Γ W et)) (LSs U Γ W sa) (LSs U Γ W sb) D σ H := by
  obtain ⟨ρ, env, s, D0, R, E, h, c⟩ := h
  unfold wpS at h
  refine LE.bool R E h (fun x s1 q => bl_and (A := fun s1 => wpSs Γ sa env s1 D0) (B := fun s1 => wpSs Γ sb env s1 D0) q) (c.cx E) fun b s1 ρ1 H1 f m R1 => ⟨b, rfl, ?_⟩
  cases b with
  | true => exact ⟨ρ1, env, s1, D0, R1, E.mono m, by simpa using f, c.mono m⟩
  | false => exact ⟨ρ1, env, s1, D0, R1, E.mono m, by simpa using f, c.mono m⟩
theorem lWhl {et : E} {sb : Ss} {D : Ends} {σ : St} (h : LS U Γ W (.whl et sb) D σ H) : tWhile (tB (LE U Γ W et)) (LSs U Γ W sb) D σ H := by
  obtain ⟨ρ, env, s, D0, R, E, h, c⟩ := h
  unfold wpS at h
  obtain ⟨Wm, ⟨m0, w0⟩, turn⟩ := h
  refine ⟨fun m σ' H' => ∃ ρ' env' s', Mo ρ H ρ' H' ∧ RH U ρ' H' s' ∧ RE U.K ρ' H' env' σ' ∧ Wm m env' s', ⟨m0, ρ, env, s, Mo.refl, R, E, w0⟩, ?_⟩
  rintro m σ1 H1 ⟨ρ1, env1, s1, m1, R1, E1, w1⟩
  have cx : CXx U ρ1 H1 (fun x s1 => D0.ex x env1 s1) (fun c d H' => W c d σ1 H') := (c.mono m1).cx E1
  refine LE.bool R1 E1 (turn m env1 s1 w1) (fun x s1 q => bl_and (A := fun s1 => wpSs Γ sb env1 s1 { D0 with nx := fun σ' s' => ∃ m', m' < m ∧ Wm m' σ' s', ct := fun σ' s' => ∃ m', m' < m ∧ Wm m' σ' s', bk := D0.nx }) (B := fun s1 => D0.nx env1 s1) q) cx fun b s2 ρ2 H2 f m2 R2 => ⟨b, rfl, ?_⟩
  have m12 := m1.trans m2
  cases b with
  | true =>
    dsimp only
    rw [if_pos rfl]
    have again : ∀ env' s' ρ' H' σ', (∃ m', m' < m ∧ Wm m' env' s') → Mo ρ2 H2 ρ' H' → RH U ρ' H' s' → RE U.K ρ' H' env' σ' → ∃ m', m' < m ∧ ∃ ρ' env' s', Mo ρ H ρ' H' ∧ RH U ρ' H' s' ∧ RE U.K ρ' H' env' σ' ∧ Wm m' env' s' :=
      fun env' s' ρ' H' σ' ⟨m', hm, w⟩ m3 R3 E3 => ⟨m', hm, ρ', env', s', m12.trans m3, R3, E3, w⟩
    exact ⟨fun σ' H' => ∃ m', m' < m ∧ ∃ ρ' env' s', Mo ρ H ρ' H' ∧ RH U ρ' H' s' ∧ RE U.K ρ' H' env' σ' ∧ Wm m' env' s', fun _ _ z => z, ρ2, env1, s2, ({ D0 with nx := fun σ' s' => ∃ m', m' < m ∧ Wm m' σ' s', ct := fun σ' s' => ∃ m', m' < m ∧ Wm m' σ' s', bk := D0.nx } : MD), R2, E1.mono m2, by simpa using f,
      ⟨again, c.rt.mono m12, (c.mono m12).nx, again, (c.mono m12).ex⟩⟩
  | false =>
    dsimp only
    rw [if_neg (by decide)]
    exact c.nx env1 s2 ρ2 H2 σ1 (by simpa using f) m12 R2 (E1.mono m2)
/-- the turns of a for -/
theorem for_turns {tg : Tg} {sb : Ss} {σ : St} {env : MEnv} {xs : List MV} {st : Still} {J : L2.It} {D0 : MD} {D : Ends} (R : RH U ρ H s) (E : RE U.K ρ H env σ) (wk : Wk U ρ H J xs st)
    (h : forL (tgW tg) (fun σ1 s2 k => wpSs Γ sb σ1 s2 { D0 with nx := k, ct := k, bk := fun σ3 s3 => st.out s3 (D0.nx σ3), rt := fun v s3 => st.out s3 (D0.rt v) }) st (fun σ3 s3 => st.out s3 (D0.nx σ3)) xs env s)
    (hn : ∀ env' s' ρ' H' σ', st.out s' (D0.nx env') → Mo ρ H ρ' H' → RH U ρ' H' s' → RE U.K ρ' H' env' σ' → D.nx σ' H')
    (hr : CV U ρ H (fun v s3 => st.out s3 (D0.rt v)) D.rt)
    (hx : ∀ x env' s' ρ' H' σ' c d, D0.ex x env' s' → Mo ρ H ρ' H' → RH U ρ' H' s' → RE U.K ρ' H' env' σ' → RX U.K ρ' H' x c d → W c d σ' H') :
    ∃ Wm : Nat → Nat → St → Hp → Prop, (∃ m, Wm 0 m σ H) ∧ ∀ i m σ H, Wm i m σ H →
      (J.stop i H ∧ D.nx σ H) ∨ (J.go i H ∧ ∃ N : St → Hp → Prop, (∀ σ' H', N σ' H' → ∃ m', m' < m ∧ Wm (i + 1) m' σ' H') ∧ ∀ x H', J.yld i H x H' → LG U tg x σ H' fun σ2 H2 => LSs U Γ W sb { D with nx := N, ct := N, bk := D.nx } σ2 H2) := by
  let F : List MV → MEnv → MS → Prop := fun l e s' => forL (tgW tg) (fun σ1 s2 k => wpSs Γ sb σ1 s2 { D0 with nx := k, ct := k, bk := fun σ3 s3 => st.out s3 (D0.nx σ3), rt := fun v s3 => st.out s3 (D0.rt v) }) st (fun σ3 s3 => st.out s3 (D0.nx σ3)) l e s'
  let Pv : Nat → St → Hp → Prop := fun i σ' H' => ∃ ρ' env' s', Mo ρ H ρ' H' ∧ RH U ρ' H' s' ∧ RE U.K ρ' H' env' σ' ∧ F (xs.drop i) env' s'
  refine for_it (n := xs.length) (G := fun H' => ∃ ρ' s', Mo ρ H ρ' H' ∧ RH U ρ' H' s' ∧ st.ok s') (Y := fun i H x H' => J.yld i H x H') ⟨fun i H' hi ⟨ρ', s', m, R', o⟩ => wk.go i ρ' H' s' m R' o hi, fun H' ⟨ρ', s', m, R', o⟩ => wk.stop ρ' H' s' m R' o, fun i H x H' _ _ y => y⟩ Pv ?_ ?_ ?_ ?_
  · exact ⟨ρ, env, s, Mo.refl, R, E, by rw [List.drop_zero]; exact h⟩
  · rintro i σ' H' hi ⟨ρ', env', s', m, R', E', l⟩
    exact ⟨ρ', s', m, R', forL_ok l⟩
  · rintro i x σ' H' H2 hi ⟨ρ', env', s', m, R', E', l⟩ y
    obtain ⟨m2, R2, mv, e1, r⟩ := wk.yld i ρ' H' s' x H2 m R' (forL_ok l) hi y
    have ed : xs.drop i = mv :: xs.drop (i + 1) := by
      obtain ⟨h1, h2⟩ := List.getElem?_eq_some_iff.mp e1
      rw [← h2]
      exact List.drop_eq_getElem_cons h1
    have m3 := m.trans m2
    rw [ed] at l
    obtain ⟨_, l⟩ := l
    refine ⟨ρ', env', s', mv, _, R2, E'.mono m2, r, l, fun env2 σ2 w E2 => ⟨ρ', env2, s', _, R2, E2, w, ?_⟩⟩
    have nxt : ∀ env3 s3 ρ3 H3 σ3, F (xs.drop (i + 1)) env3 s3 → Mo ρ' H2 ρ3 H3 → RH U ρ3 H3 s3 → RE U.K ρ3 H3 env3 σ3 → Pv (i + 1) σ3 H3 := fun env3 s3 ρ3 H3 σ3 q m4 R3 E3 => ⟨ρ3, env3, s3, m3.trans m4, R3, E3, q⟩
    exact ⟨nxt, hr.mono m3, fun env3 s3 ρ3 H3 σ3 q m4 R3 E3 => hn env3 s3 ρ3 H3 σ3 q (m3.trans m4) R3 E3, nxt, fun x env3 s3 ρ3 H3 σ3 c d q m4 => hx x env3 s3 ρ3 H3 σ3 c d q (m3.trans m4)⟩
  · rintro σ' H' ⟨ρ', env', s', m, R', E', l⟩
    rw [List.drop_length] at l
    exact hn env' s' ρ' H' σ' l.2 m R' E'
theorem lFor {it : It} (hnd : ∀ e, it ≠ .dk e) {tg : Tg} {sb : Ss} {D : Ends} {σ : St} (h : LS U Γ W (.fr tg it sb) D σ H) : tFor (LI U Γ W it) (LG U tg) (LSs U Γ W sb) D σ H := by
  obtain ⟨ρ, env, s, D0, R, E, h, c⟩ := h
  unfold wpS at h
  exact ⟨ρ, env, s, _, _, R, E, h, fun xs t s1 ρ1 H1 J q nd m R1 wk => for_turns R1 (E.mono m) wk q (fun env' s' ρ' H' σ' q' m' R' E' => c.nx env' s' ρ' H' σ' (Still.out_nd nd q') (m.trans m') R' E')
    (fun v s' ρ' H' x q' m' R' r' => c.rt v s' ρ' H' x (Still.out_nd nd q') (m.trans m') R' r') (c.mono m).ex, c.cx E⟩
theorem lForD (hK : X.K = U.K) {ed : E} {tg : Tg} {sb : Ss} {D : Ends} {σ : St} (h : LS U Γ W (.fr tg (.dk ed) sb) D σ H) : tLock (tFor (iKeys (LE U Γ W ed)) (LG U tg) (LSs U Γ W sb)) D σ H := by
  obtain ⟨ρ, env, s, D0, R, E, h, c⟩ := h
  unfold wpS wpI at h
  obtain ⟨n, kvs, hn, h⟩ := h
  obtain ⟨ad, ws, ha, h0, lk⟩ := R.lock hn
  refine ⟨ad, .dK ws, h0, trivial, fun od => ?_⟩
  obtain ⟨ml, Rl⟩ := lk od
  refine ⟨ρ, env, _, _, _, Rl, E.mono ml, h, fun v s1 ρ1 H1 x q m1 R1 r1 => ?_, (c.cx E).mono ml⟩
  obtain ⟨rfl, hf, q⟩ := q
  obtain ⟨ad', ha', rfl⟩ := r1
  rw [m1.at_ ha] at ha'
  cases ha'
  have h1 : H1 ad = some (.frz od (.dK ws)) := m1.frzs _ _ _ (upd_same ..)
  obtain ⟨b, hb, o2, ws2, h2, h3, _, _⟩ := R1.at_ _ _ hf
  rw [m1.at_ ha] at hb
  cases hb
  rw [h1] at h2
  cases h2
  refine ⟨ad, od, rfl, .inl ⟨ws, h1, for_turns R1 ((E.mono ml).mono m1) (wk_keys h1 h3) q (fun env' s' ρ' H' σ' q' m' R' E' => ?_) (fun v s' ρ' H' x q' m' R' r' => ?_) ((c.mono ml).mono m1).ex⟩⟩
  · obtain ⟨q1, q2⟩ := q'
    obtain ⟨e1, m2, R2, m0⟩ := RH.unlock h0 ha (m1.trans m') R' q1
    exact ⟨e1, c.nx env' _ ρ' _ σ' q2 m2 R2 (E'.mono0 m0)⟩
  · obtain ⟨q1, q2⟩ := q'
    obtain ⟨e1, m2, R2, m0⟩ := RH.unlock h0 ha (m1.trans m') R' q1
    exact ⟨e1, c.rt v _ ρ' _ x q2 m2 R2 (RV.mono0 m0 _ _ r')⟩
end
section
variable {U : Wd} {Γ : Prg} {k : Nat}
theorem StC.nox {X : Cx} {W : WX} (c : StC X W) : StC X.nox Wno := ⟨c.fn, c.kind, PassesOwn.never, takes_no⟩
theorem Good.wish' {X : Cx} (g : Good U Γ X k) (xe : Value → Shared → Prop) : Good U Γ (X.wish xe) k :=
  ⟨⟨g.cx.P, g.cx.w, g.cx.K, g.cx.calm, g.cx.un⟩, g.nd, g.room, g.inj, g.blt, g.con, fun f sp h => let ⟨fa, h1, h2⟩ := g.fn f sp h; ⟨fa, h1, h2.kp, h2.fn, h2.dc⟩,
    fun c m d sp h1 h2 => let ⟨fa, h3, h4⟩ := g.mt c m d sp h1 h2; ⟨fa, h3, h4.kp, h4.fn, h4.dc⟩, fun c d sp h1 h2 => let ⟨fa, h3, h4, h5, h6⟩ := g.mkc c d sp h1 h2; ⟨fa, h3, h4, h5, h6.kp, h6.fn, h6.dc⟩,
    fun c m sp h1 h0 => let ⟨fa, mc, h3, h4, h5, h6⟩ := g.cl c m sp h1 h0; ⟨fa, mc, h3, h4, h5, h6.kp, h6.fn, h6.dc⟩⟩
/-- the parts of a comprehension, by the look -/
theorem lcOk_of {X : Cx} {tg : Tg} {tst : Eo} {elt : E} {vs : List Nat} {t y : Expr} {ifs : List Expr} {scope : Scope} (g : Good U Γ X k) (h4 : blkC X.N X.env.scope scope (ownOf X.N vs) = true) (h5 : chkTg X.N (fun x => locB scope x) tg t = true) (h6 : tgIn vs tg = true)
    (h7 : chkT X.N U.FL tst (relS scope X.env.scope) ifs = true) (h8 : chkE X.N U.FL elt (relS scope X.env.scope) y = true) : LcOk U Γ X tg tst elt vs t y ifs scope :=
  ⟨blkOk_by h4, fun s H C cl fp => sTgk (X := X.blk s H _ _ fp) g.cx.K g.cx.calm g.nd (fun x hx => blk_st hx) vs tg _ h5 h6,
    fun s H C cl fp => sT tst (X := X.blk s H _ _ fp) (g.blk ..) h7, fun s H C cl fp => (sE elt (X := X.blk s H _ _ fp) (g.blk ..) takes_no h8).1⟩
/-- name = [..] -/
theorem sSetLc {X : Cx} {W : WX} {i : Nat} {y : Str} {py pos : Pos} {ee : E} {elt : Expr} {gs : List Comprehension} {scope : Scope} {lp : Pos} (g : Good U Γ X k) (c : StC X W) (hN : X.N[i]? = some y) (hl : X.env.scope.names.lookup y = some .local) (hp : (py.line == lp.line) = true)
    (hs : (scope.names.any fun (n, k) => n == y && (k == .local || k == .cell)) = false) (hdk : noDk ee = true) (h : chkE X.N U.FL ee X.env.scope (.ListComp elt gs scope lp) = true) : PS X (.Assign [.Name y py] (.ListComp elt gs scope lp) pos) (tAsg (LE U Γ W ee) (gName i)) := by
  cases ee with
  | lc el tg it tst vs =>
    unfold chkE at h
    split at h
    · rename_i e1
      cases e1
      simp only [Bool.and_eq_true] at h
      obtain ⟨⟨⟨⟨⟨⟨⟨h1, h2⟩, h3⟩, h4⟩, h5⟩, h6⟩, h7⟩, h8⟩ := h
      have ho := lcOk_of (U := U) (Γ := Γ) g h4 h5 h6 h7 h8
      have sw := fun elt gs => sw_true (elt := elt) (gs := gs) (scope := scope) (pos := lp) (py := py) (y := y) (l := pos.line) (env := X.env) c.kind hl hp hs
      cases it with
      | dk e =>
        cases hdk
      | seq e =>
        have z := ps_setLc g.cx.calm g.nd hN hl (sw _ _) (sI (.seq e) (W := W) g c.tk h3 h2) ho.ok ho.tgt ho.tests ho.el (fold_of h1)
        rw [own_map] at z
        exact z.imp fun D σ H q => lc_free (it := .seq e) (by intro _ z; cases z) q
      | rng e =>
        have z := ps_setLc g.cx.calm g.nd hN hl (sw _ _) (sI (.rng e) (W := W) g c.tk h3 h2) ho.ok ho.tgt ho.tests ho.el (fold_of h1)
        rw [own_map] at z
        exact z.imp fun D σ H q => lc_free (it := .rng e) (by intro _ z; cases z) q
      | enm e =>
        have z := ps_setLc g.cx.calm g.nd hN hl (sw _ _) (sI (.enm e) (W := W) g c.tk h3 h2) ho.ok ho.tgt ho.tests ho.el (fold_of h1)
        rw [own_map] at z
        exact z.imp fun D σ H q => lc_free (it := .enm e) (by intro _ z; cases z) q
    · cases h
  | bf f es => cases f <;> (unfold chkE at h; exact nomatch (show false = true from h))
  | bm f a es => cases f <;> (unfold chkE at h; exact nomatch (show false = true from h))
  | _ => unfold chkE at h; exact nomatch (show false = true from h)
mutual
theorem sS : ∀ (st : S) {X : Cx} {W : WX} {x : Stmt}, Good U Γ X k → StC X W → chkS X.N U.FL st X.env.scope x = true → PS X x (LS U Γ W st)
  | .ex e, X, W, x, g, c, h => by
    unfold chkS at h
    split at h
    · simp only [Bool.and_eq_true] at h
      exact (ps_expr (sE e g c.tk h.2).1 (swap_no h.1.1 _ _ _)).imp fun D σ H ⟨ρ, env, s, D0, R, E, h, cd⟩ => by
        unfold wpS at h
        exact ⟨ρ, env, s, _, _, R, E, h, fun v s1 ρ1 H1 x q m R1 r => cd.nx env s1 ρ1 H1 σ q m R1 (E.mono m), cd.cx E⟩
    · cases h
  | .asg t e, X, W, x, g, c, h => by
    unfold chkS at h
    split at h
    · rename_i tg ex pos
      simp only [Bool.and_eq_true] at h
      obtain ⟨⟨h1, h2⟩, h3⟩ := h
      have he := (sE e (W := W) g c.tk h2).1
      have hg := sTg g.cx.K g.cx.calm g.nd (fun x hx => st_ok c hx) t tg h1
      split at h3
      · rename_i y py
        cases t with
        | tp ts => unfold chkTg at h1; cases h1
        | nm i =>
          unfold chkTg at h1
          simp only [Bool.and_eq_true, decide_eq_true_eq] at h1
          obtain ⟨l1, l2⟩ := st_ok c h1.2
          simp only [Bool.or_eq_true] at h3
          rcases h3 with h3 | h3
          · exact (ps_set g.nd h1.1 l1 he (swap_no h3 _ _ _) l2).imp fun D σ H q => lAsg (fun R E r q c => nm_end R E r q c) q
          · split at h3
            · rename_i elt gs scope lp
              simp only [Bool.and_eq_true, Bool.not_eq_true'] at h3
              have hl : X.env.scope.names.lookup y = some .local := by
                have := h3.1.1.2
                split at this
                · assumption
                · cases this
              exact (sSetLc g c h1.1 hl h3.1.2 h3.2 h3.1.1.1 h2).imp fun D σ H q => lAsg (fun R E r q c => nm_end R E r q c) q
            · cases h3
      · simp only [Bool.and_eq_true] at h3
        refine (ps_asg he hg (sole_no h3.2 _ _) ?_ rfl).imp fun D σ H q => lAsg (fun R E r q c => tg_end R E r q c) q
        have := h3.1
        cases ex <;> first | (cases this; done) | rfl
      · cases h3
    · cases h
  | .setf o f e, X, W, x, g, c, h => by
    unfold chkS at h
    split at h
    · simp only [Bool.and_eq_true, decide_eq_true_eq] at h
      obtain ⟨⟨⟨rfl, h2⟩, h3⟩, h4⟩ := h
      exact (ps_fld (sE o g c.tk h3).1 (sE e g c.tk h4).1 (swap_at _ _)).imp fun D σ H q => lSetf g h2 q
    · cases h
  | .seti o i e, X, W, x, g, c, h => by
    unfold chkS at h
    split at h
    · simp only [Bool.and_eq_true] at h
      obtain ⟨⟨⟨⟨⟨h1, h2⟩, h3⟩, h4⟩, h5⟩, h6⟩ := h
      exact (ps_asg (sE e g c.tk h6).1 (pg_sub (sE o g c.tk h4).1 (sE i g c.tk h5).1 (set_any (U := U) g.cx) (asg_sub h3)) (sole_no h1 _ _) rfl rfl).imp fun D σ H q => lSeti q
    · cases h
  | .aug i e, X, W, x, g, c, h => by
    unfold chkS at h
    split at h
    · simp only [Bool.and_eq_true, decide_eq_true_eq] at h
      obtain ⟨l1, l2⟩ := st_ok c h.1.2
      exact (ps_aug g.nd h.1.1 l1 (sE e g c.tk h.2).1 ip_add l2).imp fun D σ H q => lAug q
    · cases h
  | .ife t a b, X, W, x, g, c, h => by
    unfold chkS at h
    split at h
    · simp only [Bool.and_eq_true] at h
      exact (ps_if (sE t g c.tk h.1.1).2 (sSs a g c h.1.2) (sSs b g c h.2)).imp fun D σ H q => lIf q
    · cases h
  | .whl t b, X, W, x, g, c, h => by
    unfold chkS at h
    split at h
    · simp only [Bool.and_eq_true] at h
      exact (ps_while c.po (sE t g c.tk h.1).2 (sSs b g c h.2)).imp fun D σ H q => lWhl q
    · cases h
  | .fr tg it b, X, W, x, g, c, h => by
    unfold chkS at h
    split at h
    · simp only [Bool.and_eq_true] at h
      obtain ⟨⟨⟨⟨h1, h2⟩, h3⟩, h4⟩, h5⟩ := h
      have hg := sTg (U := U) g.cx.K g.cx.calm g.nd (fun x hx => st_ok c hx) tg _ h3
      have hb := sSs b g c h5
      cases it with
      | dk e => exact (ps_lock (ps_for c.po g.cx.calm (pi_keys (sI (.dk e) (W := W) g c.tk h4 h2)) hg hb (fold_of h1))).imp fun D σ H q => lForD g.cx.K q
      | seq e => exact (ps_for c.po g.cx.calm (sI (.seq e) (W := W) g c.tk h4 h2) hg hb (fold_of h1)).imp fun D σ H q => lFor (it := .seq e) (by intro _ z; cases z) q
      | rng e => exact (ps_for c.po g.cx.calm (sI (.rng e) (W := W) g c.tk h4 h2) hg hb (fold_of h1)).imp fun D σ H q => lFor (it := .rng e) (by intro _ z; cases z) q
      | enm e => exact (ps_for c.po g.cx.calm (sI (.enm e) (W := W) g c.tk h4 h2) hg hb (fold_of h1)).imp fun D σ H q => lFor (it := .enm e) (by intro _ z; cases z) q
    · cases h
  | .ret e, X, W, x, g, c, h => by
    unfold chkS at h
    split at h
    · exact (ps_ret (sE e g c.tk h).1).imp fun D σ H ⟨ρ, env, s, D0, R, E, h, cd⟩ => by
        unfold wpS at h
        exact ⟨ρ, env, s, _, _, R, E, h, cd.rt, cd.cx E⟩
    · cases h
  | .retn, X, W, x, g, c, h => by
    unfold chkS at h
    split at h
    · exact ps_retN.imp fun D σ H ⟨ρ, env, s, D0, R, E, h, cd⟩ => by
        unfold wpS at h
        exact cd.rt .non s ρ H _ h Mo.refl R rfl
    · cases h
  | .brk, X, W, x, g, c, h => by
    unfold chkS at h
    split at h
    · exact ps_break.imp fun D σ H ⟨ρ, env, s, D0, R, E, h, cd⟩ => by
        unfold wpS at h
        exact cd.bk env s ρ H σ h Mo.refl R E
    · cases h
  | .cnt, X, W, x, g, c, h => by
    unfold chkS at h
    split at h
    · exact ps_continue.imp fun D σ H ⟨ρ, env, s, D0, R, E, h, cd⟩ => by
        unfold wpS at h
        exact cd.ct env s ρ H σ h Mo.refl R E
    · cases h
  | .pas, X, W, x, g, c, h => by
    unfold chkS at h
    split at h
    · exact ps_pass.imp fun D σ H ⟨ρ, env, s, D0, R, E, h, cd⟩ => by
        unfold wpS at h
        exact cd.nx env s ρ H σ h Mo.refl R E
    · cases h
  | .rse cc es, X, W, x, g, c, h => by
    unfold chkS at h
    cases h
  | .rne, X, W, x, g, c, h => ps_never.imp fun D σ H ⟨ρ, env, s, D0, R, E, h, cd⟩ => by
    unfold wpS at h
    exact h
  | .trn b, X, W, x, g, c, h => by
    unfold chkS at h
    split at h
    · exact (ps_try_thru0 (sSs b (g.wish' _) c.nox h)).imp fun D σ H ⟨ρ, env, s, D0, R, E, h, cd⟩ => by
        unfold wpS at h
        exact ⟨ρ, env, s, _, R, E, h, cd.nx, cd.rt, cd.bk, cd.ct, fun x env s' ρ' H' σ' c d z => z.elim⟩
    · cases h
theorem sSs : ∀ (st : Ss) {X : Cx} {W : WX} {x : List Stmt}, Good U Γ X k → StC X W → chkSs X.N U.FL st X.env.scope x = true → PSs X x (LSs U Γ W st)
  | .nil, X, W, x, g, c, h => by
    unfold chkSs at h
    split at h
    · exact pss_nil.imp fun D σ H ⟨ρ, env, s, D0, R, E, h, cd⟩ => by
        unfold wpSs at h
        exact cd.nx env s ρ H σ h Mo.refl R E
    · cases h
  | .cons st r, X, W, x, g, c, h => by
    unfold chkSs at h
    split at h
    · simp only [Bool.and_eq_true] at h
      exact (pss_cons (sS st g c h.1) (sSs r g c h.2)).imp fun D σ H ⟨ρ, env, s, D0, R, E, h, cd⟩ => by
        unfold wpSs at h
        exact ⟨ρ, env, s, _, R, E, h, fun env' s' ρ' H' σ' q m R' E' => ⟨ρ', env', s', D0, R', E', q, cd.mono m⟩, cd.rt, cd.bk, cd.ct, cd.ex⟩
    · cases h
end
end
end Ly
/-! Lay, part G: the defs of a program. -/
namespace Ly
open PySem L2
open PyProof.Rows hiding St
/-! ### how parameters are bound -/
def argB (a : Arguments) (ps : List Str) : Bool := a.posonlyargs.isEmpty && a.vararg.isNone && a.kwonlyargs.isEmpty && a.kwarg.isNone && decide (a.args.map (·.arg) = ps) && decide ps.Nodup
theorem look_zip : ∀ {ps : List Str} {us : List Value} {n : Str}, us.length = ps.length → n ∈ ps → ((ps.zip us).lookup n).isSome = true
  | [], _, _, _, h => nomatch h
  | p :: ps, [], _, h, _ => by simp at h
  | p :: ps, u :: us, n, hl, h => by
    rw [List.zip_cons_cons, List.lookup_cons]
    cases e : n == p with
    | true => rfl
    | false =>
      rcases List.mem_cons.mp h with z | z
      · subst z
        simp at e
      · exact look_zip (by simpa using hl) z
theorem zip_fm : ∀ {ps : List Str} {us : List Value}, us.length = ps.length → ps.Nodup → (ps.filterMap fun n => ((ps.zip us).lookup n).map (n, ·)) = ps.zip us := by
  intro ps us hl nd
  have key : ∀ (qs : List Str) (vs : List Value) (pre : List (Str × Value)), vs.length = qs.length → qs.Nodup → (∀ q ∈ qs, pre.lookup q = none) → (qs.filterMap fun n => ((pre ++ qs.zip vs).lookup n).map (n, ·)) = qs.zip vs := by
    intro qs
    induction qs with
    | nil => intro vs pre _ _ _; rfl
    | cons q qs ih =>
      intro vs pre hl nd hp
      cases vs with
      | nil => simp at hl
      | cons v vs =>
        rw [List.zip_cons_cons, List.filterMap_cons]
        have h1 : (pre ++ (q, v) :: qs.zip vs).lookup q = some v := by
          rw [List.lookup_append, hp q List.mem_cons_self]
          simp [List.lookup_cons]
        rw [h1]
        have h2 := ih vs (pre ++ [(q, v)]) (by simpa using hl) (List.nodup_cons.mp nd).2 fun p hp' => by
          rw [List.lookup_append, hp p (List.mem_cons_of_mem _ hp')]
          have : p ≠ q := fun e => (List.nodup_cons.mp nd).1 (e ▸ hp')
          rw [List.lookup_cons, show (p == q) = false from beq_eq_false_iff_ne.mpr this]
          rfl
        rw [List.append_assoc] at h2
        simp only [Option.map_some]
        congr 1
  have := key ps us [] hl nd (fun _ _ => rfl)
  simpa using this
theorem bind_ok {fd : FuncData} {ps : List Str} {us : List Value} (h : argB fd.params ps = true) (hd : fd.defaults = .none) (hl : us.length = ps.length) : bindArgs fd ⟨us, []⟩ = pure (ps.zip us) := by
  obtain ⟨x1, x2, params, x4, x5, x6, x7, dflts, x9, x10, x11, x12, x13, x14, x15⟩ := fd
  obtain ⟨a1, a2, a3, a4, a5, a6, a7⟩ := params
  unfold argB at h
  simp only [Bool.and_eq_true, decide_eq_true_eq, List.isEmpty_iff, Option.isNone_iff_eq_none] at h
  obtain ⟨⟨⟨⟨⟨rfl, rfl⟩, rfl⟩, rfl⟩, hn⟩, nd⟩ := h
  simp only at hd
  subst hd
  have h1 : ((List.map (fun x => x.arg) a2).filter fun n => ((ps.zip us).lookup n).isNone) = [] := by
    rw [hn, List.filter_eq_nil_iff]
    intro n hn'
    have := look_zip hl hn'
    cases e : (ps.zip us).lookup n with
    | none => rw [e] at this; cases this
    | some v => simp
  unfold bindArgs
  simp only [List.map_nil, List.nil_append, List.append_nil, hn] at h1 ⊢
  have hng : ¬ us.length > ps.length := by omega
  have ht : List.take ps.length ps = ps := List.take_length
  simp [seqItems?, hng, zip_fm hl nd, ht]
  have e0 : notAStandIn Value.none = pure () := rfl
  simp [e0, ht, h1]
/-! ### a program's defs, and what the head tells of them -/
def atOf (c m : Nat) : Str × Option Str := if c = 0 then (nmOf m, none) else (nmOf c, some (nmOf m))
structure Df where
  c : Nat
  m : Nat
  d : He.DefD
  N : List Str
  ps : List Str
  b : Ss
def scB (N ps : List Str) (sc : Scope) : Bool := (match sc.kind with
  | .function => true
  | _ => false) && !sc.isCoroutine && !sc.isGenerator && decide N.Nodup && decide (N.take ps.length = ps) && (ps.all fun x => (match sc.names.lookup x with
  | some .local => true
  | some .cell => true
  | _ => false)) && sc.names.all fun y => (match y.2 with
  | .free => false
  | _ => true)
theorem scB_ok {N ps : List Str} {sc : Scope} (h : scB N ps sc = true) : FnScope N ps sc := by
  unfold scB at h
  simp only [Bool.and_eq_true, decide_eq_true_eq, List.all_eq_true, Bool.not_eq_true'] at h
  obtain ⟨⟨⟨⟨⟨⟨h1, h2⟩, h3⟩, h4⟩, h5⟩, h6⟩, h7⟩ := h
  refine ⟨?_, h2, h3, h4, h5, fun x hx => ?_, fun y hy e => ?_⟩
  · split at h1
    · assumption
    · cases h1
  · have := h6 x hx
    split at this <;> first | exact .inl (by assumption) | exact .inr (by assumption) | cases this
  · have := h7 y hy
    rw [e] at this
    cases this
def Df.ok (FL : List Nat) (x : Df) : Bool := decide (x.d.at_ = atOf x.c x.m) && x.d.dfl.isEmpty && x.d.kwd.isEmpty && argB x.d.params x.ps && scB x.N x.ps x.d.scope && (dfltT.all fun e => decide (e.1 / 100 ≠ x.c * 1000 + x.m)) && decide (x.m < 1000) && chkSs x.N FL x.b x.d.scope x.d.body
/-- the slots at a def's start -/
def stM (N : List Str) (vs : List MV) : MEnv := vs.map some ++ List.replicate (N.length - vs.length) none
/-- what a def's body does, for its promise -/
def Law (Γ : Prg) (x : Df) (sp : MSp) : Prop := ∀ vs s Q R, sp vs s Q R → vs.length = x.ps.length ∧ wpSs Γ x.b (stM x.N vs) s { nx := fun _ s' => Q .non s', rt := Q, ex := fun y _ s' => R y s' }
/-! ### the head's word, for all defs -/
def tyT : Value := .type "type"
def valB (K : PySem.W.Frag) (c m : Nat) : Bool := (He.Fa.glo (nmOf c)).ok K && (PySem.W.readsIn K (He.ga K (nmOf c)) tyT && (He.eqO (PySem.W.specialIn K (.ref (He.ga K (nmOf c))) "__getattribute__") (some (some (.builtin "type.__getattribute__"))) && (match PySem.W.findCls K (.ref (He.ga K (nmOf c))) tyT (nmOf m) with
  | some (.val (.ref a)) => decide (a = He.fAd K (atOf c m))
  | _ => false)))
def csT : List Nat := (mresT.map fun e => e.1 / 1000).eraseDups
def stB (FL : List Nat) (ks : List (Nat × Nat)) (K : PySem.W.Frag) : Bool :=
  ((bltN.all fun x => (He.Fa.free (Str.ofString x)).ok K) && (constT.all fun e => (He.Fa.str (nmOf e.1) e.2).ok K)) && ((ks.all fun k => PySem.W.keepIn K (.ref (He.fAd K (atOf k.1 k.2))) && (if k.1 = 0 then (He.Fa.glo (nmOf k.2)).ok K else true)) && ((ks.all fun k => if k.1 = 0 then true else valB K k.1 k.2) &&
  ((csT.all fun c => (He.Fa.cls (nmOf c)).ok K && ((He.Fa.keep (nmOf c)).ok K && ((He.Fa.glo (nmOf c)).ok K && FL.all fun f => (He.Fa.noat (nmOf c) (nmOf f)).ok K))) &&
  (mresT.all fun e => He.eqO (PySem.W.findIn K (.ref (He.ga K (nmOf (e.1 / 1000)))) (nmOf (e.1 % 1000))) (some (some (.ref (He.fAd K (atOf e.2 (e.1 % 1000)))))) && (PySem.W.isFn K (.ref (He.fAd K (atOf e.2 (e.1 % 1000)))) && (PySem.W.keepIn K (.ref (He.fAd K (atOf e.2 (e.1 % 1000)))) && (if e.1 % 1000 = 0 then PySem.W.makesIn K (He.ga K (nmOf (e.1 / 1000))) else true)))))))
structure Stat (U : Wd) (mg : Str → Option Value) (ks : List (Nat × Nat)) : Prop where
  kp : ∀ c m, (c, m) ∈ ks → PySem.W.keepIn U.K (.ref (He.fAd U.K (atOf c m))) = true
  glo : ∀ m, (0, m) ∈ ks → mg (nmOf m) = some (.ref (He.fAd U.K (atOf 0 m)))
  blt : ∀ x ∈ bltN, mg (Str.ofString x) = none
  con : ∀ e ∈ constT, ∃ t, mg (nmOf e.1) = some (.str e.2 t)
  cls : ∀ c m d, mres c m = some d → m < 1000 → mg (nmOf c) = some (.ref (clA U.K c)) ∧ ClsOk U c ∧ PySem.W.keepIn U.K (.ref (clA U.K c)) = true
  mt : ∀ c m d, mres c m = some d → m < 1000 → Meth U.K (clA U.K c) (nmOf m) (He.fAd U.K (atOf d m))
  mkr : ∀ c d, mres c iInit = some d → PySem.W.makesIn U.K (clA U.K c) = true
  val : ∀ c m, (c, m) ∈ ks → c ≠ 0 → mg (nmOf c) = some (.ref (clA U.K c)) ∧ ClX.CRead U.K (clA U.K c) tyT ∧ PySem.W.findCls U.K (.ref (clA U.K c)) tyT (nmOf m) = some (.val (.ref (He.fAd U.K (atOf c m))))
theorem mres_mem {c m d : Nat} (h : mres c m = some d) : (c * 1000 + m, d) ∈ mresT := go h
where
  go {x y : Nat} : ∀ {l : List (Nat × Nat)}, l.lookup x = some y → (x, y) ∈ l
  | (a, b) :: r, h => by
    rw [List.lookup_cons] at h
    split at h
    · rename_i e
      cases h
      rw [eq_of_beq e]
      exact List.mem_cons_self
    · exact List.mem_cons_of_mem _ (go h)
theorem stat_of {U : Wd} {mg : Str → Option Value} {h : Heap} {ks : List (Nat × Nat)} (X : U.K.In h) (G : h.Ns mainGlobals mg) (e : stB U.FL ks U.K = true) : Stat U mg ks := by
  unfold stB at e
  simp only [Bool.and_eq_true, List.all_eq_true] at e
  obtain ⟨⟨e1, e1'⟩, e2, e3, e4, e5⟩ := e
  have dv : ∀ c m : Nat, m < 1000 → (c * 1000 + m) / 1000 = c ∧ (c * 1000 + m) % 1000 = m := fun c m h => ⟨by omega, by omega⟩
  have cs : ∀ c m d, mres c m = some d → m < 1000 → c ∈ csT := fun c m d h hm => by
    unfold csT
    rw [List.mem_eraseDups]
    exact List.mem_map.mpr ⟨_, mres_mem h, (dv c m hm).1⟩
  refine ⟨fun c m hk => (e2 _ hk).1, fun m hk => ?_, fun x hx => He.free_ok X G (e1 x hx), fun x hx => He.str_ok X G (e1' x hx), fun c m d hr hm => ?_, fun c m d hr hm => ?_, fun c d hr => ?_, fun c m hk h0 => ?_⟩
  · have := (e2 _ hk).2
    rw [if_pos rfl] at this
    exact He.glo_ok X G this
  · obtain ⟨h1, h2, h3, h4⟩ := e4 c (cs c m d hr hm)
    have hc : Cls U.K (clA U.K c) := by
      have h1 := h1
      unfold He.Fa.ok at h1
      simp only [Bool.and_eq_true] at h1
      exact ⟨h1.1, h1.2.1, h1.2.2.1, He.eqO_ok h1.2.2.2⟩
    exact ⟨He.glo_ok X G h3, ⟨hc, fun f hf => He.eqO_ok (h4 f hf)⟩, h2⟩
  · have := e5 _ (mres_mem hr)
    simp only [(dv c m hm).1, (dv c m hm).2] at this
    exact ⟨He.eqO_ok this.1, this.2.1, this.2.2.1⟩
  · have := (e5 _ (mres_mem hr)).2.2.2
    rw [if_pos (dv c 0 (by decide)).2, (dv c 0 (by decide)).1] at this
    exact this
  · have := e3 _ hk
    rw [if_neg h0] at this
    unfold valB at this
    simp only [Bool.and_eq_true] at this
    obtain ⟨h0', h1, h2, h3⟩ := this
    refine ⟨He.glo_ok X G h0', ⟨h1, He.eqO_ok h2⟩, ?_⟩
    split at h3
    · rename_i a e
      rw [of_decide_eq_true h3] at e
      exact e
    · cases h3
/-- the promises that stand -/
def Kn (U : Wd) (mg : Str → Option Value) (base : Heap) (k : Nat) (Γ : Prg) : Prop :=
  ∀ c m sp, Γ c m = some sp → m < 1000 ∧ ∃ fd ps, FnOk U.P U.w U.K mg base (L2.CX U.P U.w) k (He.fAd U.K (atOf c m)) fd ps (lift U sp) ∧ (∀ n, ∃ ds, Binds U.K fd ps ds ∧ Vals ((dflt c m n).map cV) ds) ∧ ∀ n, (dflt c m n).all isC = true
theorem Kn.mono {U : Wd} {mg : Str → Option Value} {base : Heap} {j k : Nat} {Γ : Prg} (h : Kn U mg base j Γ) (le : j ≤ k) : Kn U mg base k Γ := fun c m sp e =>
  let ⟨h0, fd, ps, F, b, d⟩ := h c m sp e
  ⟨h0, fd, ps, F.mono le, b, d⟩
theorem good_of {U : Wd} {Γ : Prg} {X : Cx} {k : Nat} {ks : List (Nat × Nat)} (hP : X.prog = U.P) (hw : X.w = U.w) (hK : X.K = U.K) (hc : X.calm = true) (nd : X.N.Nodup) (room : Room (k + 1) X.A) (inj : (U.FL.map nmOf).Nodup) (S : Stat U X.mg ks)
    (kn : Kn U X.mg X.base k Γ) (hk : ∀ c m sp, Γ c m = some sp → (c, m) ∈ ks) : Good U Γ X k := by
  have at_ : ∀ c m sp, Γ c m = some sp → m < 1000 ∧ FnAt U X k c m sp (He.fAd U.K (atOf c m)) := fun c m sp e => by
    obtain ⟨h0, fd, ps, F, b, d⟩ := kn c m sp e
    refine ⟨h0, ?_, ⟨fd, ps, ?_, ?_⟩, d⟩
    · rw [hK]; exact S.kp c m (hk c m sp e)
    · rw [hP, hw, hK]; exact F
    · rw [hK]; exact b
  refine ⟨⟨hP, hw, hK, hc, ?_⟩, nd, room, inj, S.blt, S.con, fun f sp e => ⟨_, S.glo f (hk 0 f sp e), (at_ 0 f sp e).2⟩, fun c m d sp e1 e2 => ⟨_, ?_, (at_ d m sp e2).2⟩, fun c d sp e1 e2 => ⟨_, (S.cls c iInit d e1 (by decide)).1, ?_, (S.cls c iInit d e1 (by decide)).2.1, (at_ d iInit sp e2).2⟩,
    fun c m sp e h0 => ⟨_, tyT, ?_, ?_, ?_, (at_ c m sp e).2⟩⟩
  · have := room.un
    omega
  · rw [hK]; exact S.mt c m d e1 (at_ d m sp e2).1
  · rw [hK]
    have M := S.mt c iInit d e1 (by decide)
    exact ⟨S.mkr c d e1, M.at_, M.fn, (S.cls c iInit d e1 (by decide)).2.2⟩
  · exact (S.val c m (hk c m sp e) h0).1
  · rw [hK]; exact (S.val c m (hk c m sp e) h0).2.1
  · rw [hK]; exact (S.val c m (hk c m sp e) h0).2.2
/-- one promise that stands -/
def Kn1 (U : Wd) (mg : Str → Option Value) (base : Heap) (k : Nat) (c m : Nat) (sp : MSp) : Prop :=
  m < 1000 ∧ ∃ fd ps, FnOk U.P U.w U.K mg base (L2.CX U.P U.w) k (He.fAd U.K (atOf c m)) fd ps (lift U sp) ∧ (∀ n, ∃ ds, Binds U.K fd ps ds ∧ Vals ((dflt c m n).map cV) ds) ∧ ∀ n, (dflt c m n).all isC = true
theorem dflt_no {c m : Nat} (h : (dfltT.all fun e => decide (e.1 / 100 ≠ c * 1000 + m)) = true) (n : Nat) (hn : n < 100) : dflt c m n = [] := by
  unfold dflt
  have : dfltT.lookup ((c * 1000 + m) * 100 + n) = none := by
    revert h
    generalize dfltT = l
    intro h
    induction l with
    | nil => rfl
    | cons a r ih =>
      rw [List.all_cons, Bool.and_eq_true] at h
      have h1 := of_decide_eq_true h.1
      obtain ⟨a1, a2⟩ := a
      rw [List.lookup_cons, show ((c * 1000 + m) * 100 + n == a1) = false from beq_eq_false_iff_ne.mpr fun e => h1 (by show a1 / 100 = _; omega)]
      exact ih h.2
  rw [this]
  rfl
theorem def_ok {U : Wd} {mg : Str → Option Value} {base : Heap} {k : Nat} {Γ : Prg} {ks : List (Nat × Nat)} {x : Df} {sp : MSp} {fd : FuncData} (hok : x.ok U.FL = true)
    (F : FunD U.K x.d.name x.d.qual x.d.params x.d.body x.d.scope (x.d.dvs U.K) (x.d.kws U.K) (He.fAd U.K x.d.at_) fd) (S : Stat U mg ks) (inj : (U.FL.map nmOf).Nodup) (kn : Kn U mg base k Γ) (hk : ∀ c m sp, Γ c m = some sp → (c, m) ∈ ks) (law : Law Γ x sp)
    (hd : ∀ n, dflt x.c x.m n = []) : x.m < 1000 ∧ FnOk U.P U.w U.K mg base (L2.CX U.P U.w) (k + 2) (He.fAd U.K (atOf x.c x.m)) fd x.ps (lift U sp) ∧ (∀ n, ∃ ds, Binds U.K fd x.ps ds ∧ Vals ((dflt x.c x.m n).map cV) ds) ∧ (∀ n, (dflt x.c x.m n).all isC = true) ∧ ∀ s us, us.length = x.ps.length → BindsTo s fd ⟨us, []⟩ (x.ps.zip us) := by
  unfold Df.ok at hok
  simp only [Bool.and_eq_true, decide_eq_true_eq, List.isEmpty_iff] at hok
  obtain ⟨⟨⟨⟨⟨⟨⟨h1, h2⟩, h3⟩, h4⟩, h5⟩, h6⟩, h7⟩, h8⟩ := hok
  have sc := scB_ok h5
  rw [h1] at F
  have hdv : x.d.dvs U.K = [] := by unfold He.DefD.dvs; rw [h2]; rfl
  refine ⟨h7, ?_, fun n => ⟨[], ?_, ?_⟩, fun n => by rw [hd n]; rfl, fun s us hl => ?_⟩
  · refine F.ok (k := k + 1) sc (fun vs H Q E h => ?_) fun cdv A outer s H vs Q E hr h => ?_
    · obtain ⟨ρ, args, s, Q0, R0, R, rv, h, c, cx⟩ := h
      rw [← rv.length]
      exact (law _ _ _ _ h).1
    · obtain ⟨ρ, args, st, Q0, R0, R, rv, h, c, cx⟩ := h
      obtain ⟨hl, w⟩ := law _ _ _ _ h
      have g : Good U Γ (cxOf (L2.CX U.P U.w) U.P U.w U.K mg base x.N x.d.qual x.d.scope (He.fAd U.K (atOf x.c x.m)) cdv A outer s H E) k :=
        good_of rfl rfl rfl rfl sc.nd hr inj S kn hk
      refine ⟨LSs U Γ (fun cls d _ H' => E cls d H') x.b, sSs x.b g ⟨fun _ => rfl, sc.kind, passes_of rfl, takes_of rfl rfl rfl rfl⟩ h8, ρ, stM x.N args, st, _, R, ?_, w, ?_⟩
      · refine ⟨?_, fun i v e => ?_⟩
        · unfold stM L2.start
          simp [rv.length]
        · unfold stM at e
          unfold L2.start
          by_cases hi : i < args.length
          · rw [List.getElem?_append_left (by simpa using hi), List.getElem?_map] at e
            cases e2 : args[i]? with
            | none => rw [e2] at e; cases e
            | some y =>
              rw [e2] at e
              cases e
              obtain ⟨z, hz, rz⟩ := rv.get e2
              exact ⟨z, by rw [List.getElem?_append_left (by rw [List.length_map, ← rv.length]; exact hi), List.getElem?_map, hz]; rfl, rz⟩
          · rw [List.getElem?_append_right (by simpa using hi)] at e
            rw [List.getElem?_replicate] at e
            split at e <;> cases e
      · exact ⟨fun env s' ρ' H' σ q m R' _ => c .non s' ρ' H' _ q m R' rfl, c, fun _ _ _ _ _ z => z.elim, fun _ _ _ _ _ z => z.elim, fun y env s' ρ' H' σ cc d q m R' _ r => cx y s' ρ' H' cc d q m R' r⟩
  · rw [hdv] at F
    exact FunD.bindsN F fun kV doc pm an cdv ct us hl => bind_ok h4 rfl hl
  · rw [hd n]
    exact .nil
  · rw [hdv] at F
    exact FunD.bindsA F (fun kV doc pm an cdv ct us hl => bind_ok h4 rfl hl) s us hl
/-! ### the chain -/
def prgD (l : List (Df × MSp)) : Prg := fun c m => (l.find? fun e => e.1.c == c && e.1.m == m).map (·.2)
inductive Ch : Nat → List (Df × MSp) → Prop
  | nil : Ch 0 []
  | tier {k : Nat} {l : List (Df × MSp)} (n : List (Df × MSp)) : Ch k l → (∀ p ∈ n, Law (prgD l) p.1 p.2) → Ch (k + 2) (n ++ l)
theorem prgD_mem {l : List (Df × MSp)} {c m : Nat} {sp : MSp} (h : prgD l c m = some sp) : ∃ x, (x, sp) ∈ l ∧ x.c = c ∧ x.m = m := by
  unfold prgD at h
  cases e : l.find? fun e => e.1.c == c && e.1.m == m with
  | none => rw [e] at h; cases h
  | some p =>
    rw [e] at h
    cases h
    have h1 := List.find?_some e
    simp only [Bool.and_eq_true, beq_iff_eq] at h1
    exact ⟨p.1, List.mem_of_find?_eq_some e, h1.1, h1.2⟩
theorem Ch.kn {U : Wd} {mg : Str → Option Value} {base : Heap} {ks : List (Nat × Nat)} (S : Stat U mg ks) (inj : (U.FL.map nmOf).Nodup) : ∀ {k : Nat} {l : List (Df × MSp)}, Ch k l →
    (∀ p ∈ l, (p.1.c, p.1.m) ∈ ks ∧ p.1.ok U.FL = true ∧ (∀ n, dflt p.1.c p.1.m n = []) ∧ ∃ fd, FunD U.K p.1.d.name p.1.d.qual p.1.d.params p.1.d.body p.1.d.scope (p.1.d.dvs U.K) (p.1.d.kws U.K) (He.fAd U.K p.1.d.at_) fd) →
    ∀ p ∈ l, Kn1 U mg base k p.1.c p.1.m p.2
  | _, _, .nil, _ => fun p hp => nomatch hp
  | _, _, .tier (k := k) (l := l) n ch hl, hf => by
    have ih := ch.kn (base := base) S inj fun p hp => hf p (List.mem_append_right _ hp)
    have kn : Kn U mg base k (prgD l) := fun c m sp e => by
      obtain ⟨x, h1, h2, h3⟩ := prgD_mem e
      have := ih _ h1
      rw [h2, h3] at this
      exact this
    intro p hp
    rcases List.mem_append.mp hp with hp' | hp'
    · obtain ⟨h1, h2, h3, fd, F⟩ := hf p hp
      have hk : ∀ c m sp, prgD l c m = some sp → (c, m) ∈ ks := fun c m sp e => by
        obtain ⟨x, g1, g2, g3⟩ := prgD_mem e
        have := (hf _ (List.mem_append_right _ g1)).1
        rw [g2, g3] at this
        exact this
      obtain ⟨g0, g1, g2, g3, _⟩ := def_ok h2 F S inj kn hk (hl p hp') h3
      exact ⟨g0, fd, _, g1, g2, g3⟩
    · obtain ⟨h0, fd, ps, F, b⟩ := ih p hp'
      exact ⟨h0, fd, ps, F.mono (by omega), b⟩
/-! ### the head's word: what is looked at behind the top -/
def frL (n : Nat) (g : Addr → Option Obj) : PySem.W.Frag := He.frT g (cStatics :: He.asD g n)
abbrev AlL : Type := Bool × List He.FnW
def obsL (n : Nat) (fn : List He.DefD) (ex : PySem.W.Frag → Bool) (g : Addr → Option Obj) : AlL := ((fn.all fun d => d.ok (frL n g)) && ex (frL n g), fn.map fun d => He.fnW (frL n g) d.at_)
structure SaysL (fn : List He.DefD) (ex : PySem.W.Frag → Bool) (K : PySem.W.Frag) : Prop where
  ok : ∀ d ∈ fn, d.ok K = true
  fn : ∀ d ∈ fn, He.fnW K d.at_ = d.val
  more : ex K = true
theorem map_eq_at {α β : Type} {f g : α → β} : ∀ {l : List α}, l.map f = l.map g → ∀ x ∈ l, f x = g x
  | a :: r, e, x, hx => by
    rw [List.map_cons, List.map_cons, List.cons.injEq] at e
    rcases List.mem_cons.mp hx with rfl | hx
    · exact e.1
    · exact map_eq_at e.2 x hx
theorem saysL_of {n : Nat} {fn : List He.DefD} {ex : PySem.W.Frag → Bool} {g : Addr → Option Obj} (e : obsL n fn ex g = (true, fn.map He.DefD.val)) : SaysL fn ex (frL n g) := by
  have e1 : ((fn.all fun d => d.ok (frL n g)) && ex (frL n g)) = true := congrArg (fun z : AlL => z.1) e
  have e2 : fn.map (fun d => He.fnW (frL n g) d.at_) = fn.map He.DefD.val := congrArg (fun z : AlL => z.2) e
  rw [Bool.and_eq_true, List.all_eq_true] at e1
  exact ⟨e1.1, map_eq_at e2, e1.2⟩
def hookL (n : Nat) (fn : List He.DefD) (ex : PySem.W.Frag → Bool) : PySem.W.Hook where
  α := AlL
  obs := fun s => obsL n fn ex s.heap.get?
  val := fun _ => (true, fn.map He.DefD.val)
  says := fun _ h => ∃ K : PySem.W.Frag, K.In h ∧ SaysL fn ex K
  of := fun _ _ e => ⟨_, He.frT_in, saysL_of e⟩
  keeps := fun _ _ _ ⟨K, hK, c⟩ k => ⟨K, PySem.W.Frag.In.keeps hK k, c⟩
theorem obsL_eq {n : Nat} {fn : List He.DefD} {ex : PySem.W.Frag → Bool} {g : Addr → Option Obj} {s : Shared} (h : ∀ a, g a = s.heap.get? a) : obsL n fn ex g = (hookL n fn ex).obs s := by
  have e : g = s.heap.get? := funext h
  rw [e] <;> rfl
/-- the law's promise: of every list of ints, True -/
def spLaw (n : Nat) : MSp := fun vs s Q _ => ∃ ns : List Int, vs = [.flst (ns.map .int)] ∧ s = [] ∧ ns.length ≤ n ∧ ∀ s', Q (.bl true) s'
theorem law_lift {U : Wd} {n : Nat} {H : Hp} {a : Addr} {ns : List Int} (hn : ns.length ≤ n) (ho : Only H) (hs : SqL U.K H a (ns.map V.int)) : lift U (spLaw n) [.ref a] H (fun v _ => v = .bl true) fun _ _ _ => False := by
  have hf : SqF U.K H a (ns.map V.int) := by
    rcases hs with h | h
    · rcases h with h | ⟨o, h⟩
      · rcases ho a with z | ⟨o, xs, z⟩
        · rw [h] at z; cases z
        · rw [h] at z; cases z
      · exact .inl ⟨o, h⟩
    · exact .inr h
  exact ⟨[], [.flst (ns.map .int)], [], fun v _ => v = .bl true, fun _ _ => False, ⟨rfl, List.nodup_nil, fun n o e => by simp at e⟩, ⟨_, [], rfl, ⟨a, _, rfl, hf, ints_rv ns⟩, rfl⟩, ⟨ns, rfl, rfl, hn, fun _ => rfl⟩,
    fun v s' ρ' H' x q m R r => by
      subst q
      exact r, fun x s' ρ' H' c d z => z.elim⟩
def kys (l : List Df) : List (Nat × Nat) := l.map fun x => (x.c, x.m)
/-- the law, from the head's word -/
theorem law_at {P : Program} {w : World} {FL : List Nat} {K : PySem.W.Frag} {h : Heap} {mg : Str → Option Value} {fa : Addr} {k n : Nat} {l : List (Df × MSp)} {x : Df} {dv : List He.DefD} (KX : K.In h) (G : h.Ns mainGlobals mg) (hfa : mg (nmOf x.m) = some (.ref fa)) (hx0 : x.c = 0)
    (c : SaysL dv (stB FL (kys (x :: l.map (·.1)))) K) (hdv : dv = (x :: l.map (·.1)).map (·.d)) (inj : (FL.map nmOf).Nodup) (hok : ((x :: l.map (·.1)).all fun y => y.ok FL) = true) (hd : ∀ c m n, dflt c m n = []) (ch : Ch k l) (law : Law (prgD l) x (spLaw n)) (hps : x.ps.length = 1) :
    ∃ fd : FuncData, (∀ (s : Shared) (v : Value), BindsTo s fd ⟨[v], []⟩ (x.ps.zip [v])) ∧ (∀ (H : Hp) (a : Addr) (ns : List Int), ns.length ≤ n → Only H → SqL K H a (ns.map V.int) → lift ⟨P, w, K, FL⟩ (spLaw n) [.ref a] H (fun v _ => v = .bl true) fun _ _ _ => False) ∧
      ∀ base : Heap, K.In base → base.Ns mainGlobals mg → FnOk P w K mg base (L2.CX P w) (k + 2) fa fd x.ps (lift ⟨P, w, K, FL⟩ (spLaw n)) := by
  have S : Stat ⟨P, w, K, FL⟩ mg (kys (x :: l.map (·.1))) := stat_of (U := ⟨P, w, K, FL⟩) KX G c.more
  have hF : ∀ y ∈ x :: l.map (·.1), ∃ fd, FunD K y.d.name y.d.qual y.d.params y.d.body y.d.scope (y.d.dvs K) (y.d.kws K) (He.fAd K y.d.at_) fd := fun y hy => He.DefD.funD (c.fn _ (by rw [hdv]; exact List.mem_map_of_mem hy)) (c.ok _ (by rw [hdv]; exact List.mem_map_of_mem hy))
  rw [List.all_eq_true] at hok
  obtain ⟨fd, F⟩ := hF x List.mem_cons_self
  have hkn : ∀ c m sp, prgD l c m = some sp → (c, m) ∈ kys (x :: l.map (·.1)) := fun c m sp e => by
    obtain ⟨y, g1, g2, g3⟩ := prgD_mem e
    exact List.mem_map.mpr ⟨y, List.mem_cons_of_mem _ (List.mem_map.mpr ⟨_, g1, rfl⟩), by rw [g2, g3]⟩
  have kn : ∀ base : Heap, Kn ⟨P, w, K, FL⟩ mg base k (prgD l) := fun base c m sp e => by
    obtain ⟨y, h1, h2, h3⟩ := prgD_mem e
    have := ch.kn (base := base) S inj (fun p hp => ⟨List.mem_map.mpr ⟨p.1, List.mem_cons_of_mem _ (List.mem_map.mpr ⟨p, hp, rfl⟩), rfl⟩, hok _ (List.mem_cons_of_mem _ (List.mem_map.mpr ⟨p, hp, rfl⟩)), hd _ _, hF _ (List.mem_cons_of_mem _ (List.mem_map.mpr ⟨p, hp, rfl⟩))⟩) _ h1
    rw [h2, h3] at this
    exact this
  have hm : fa = He.fAd K (atOf x.c x.m) := by
    have := S.glo x.m (List.mem_map.mpr ⟨x, List.mem_cons_self, by rw [hx0]⟩)
    rw [hfa] at this
    rw [hx0]
    cases this
    rfl
  have D := fun base => def_ok (U := ⟨P, w, K, FL⟩) (base := base) (hok x List.mem_cons_self) F S inj (kn base) hkn law (hd _ _)
  refine ⟨fd, fun s v => (D h).2.2.2.2 s [v] (by rw [hps]; rfl), fun H a ns hn ho hs => law_lift hn ho hs, fun base _ _ => ?_⟩
  rw [hm]
  exact (D base).2.1
end Ly
namespace Ly
open PySem L2
open PyProof.Rows hiding St
abbrev lw : PySem.W.OpenLaw := PySem.Challenge.rw_wormyard_k26_made_by_every_lane
abbrev pg : Program := lw.prog
def tp (i : Nat) : Stmt := pg.main.body.getD i (.Pass ⟨0, 0, 0, 0⟩)
def mt (i j : Nat) : Stmt := match tp i with
  | .ClassDef _ _ _ b _ _ _ _ _ _ _ => b.getD j (.Pass ⟨0, 0, 0, 0⟩)
  | _ => .Pass ⟨0, 0, 0, 0⟩
/-- TooMany.__init__: self 0, many 1 -/
def b_TooMany_init : Ss := .cons (.setf (.var 0) 6 (.var 1)) .nil
def b_TooMany_init_N : List Str := ["self", "many"]
/-- NoRoad.__init__: self 0, lane 1 -/
def b_NoRoad_init : Ss := .cons (.setf (.var 0) 8 (.var 1)) .nil
def b_NoRoad_init_N : List Str := ["self", "lane"]
/-- NoEntry.__init__: self 0, row 1 -/
def b_NoEntry_init : Ss := .cons (.setf (.var 0) 99 (.var 1)) .nil
def b_NoEntry_init_N : List Str := ["self", "row"]
/-- Land.__init__: self 0, places 1, lanes 2, number 3, lane 4, start 5, end 6 -/
def b_Land_init : Ss := .cons (.ife (.or_ (.cmp .lt (.var 1) (.int 1)) (.cmp .gt (.var 1) (.int 12))) (.cons (.rne) .nil) (.nil))
    (.cons (.ife (.cmp .gt (.bf .len (.cons (.var 2) .nil)) (.int 40)) (.cons (.rne) .nil) (.nil))
    (.cons (.fr (.tp (.cons (.nm 3) (.cons (.nm 4) .nil))) (.enm (.var 2)) (.cons (.asg (.tp (.cons (.nm 5) (.cons (.nm 6) .nil))) (.var 4))
    (.cons (.ife (.or_ (.cmp .eq (.var 5) (.var 6)) (.or_ (.cmp .lt (.var 5) (.int 0)) (.or_ (.cmp .lt (.var 6) (.int 0)) (.or_ (.cmp .ge (.var 5) (.var 1)) (.cmp .ge (.var 6) (.var 1)))))) (.cons (.rne) .nil) (.nil)) .nil)))
    (.cons (.setf (.var 0) 18 (.var 1))
    (.cons (.setf (.var 0) 19 (.bf .tuple (.cons (.var 2) .nil))) .nil))))
def b_Land_init_N : List Str := ["self", "places", "lanes", "number", "lane", "start", "end"]
/-- Land.start_of: self 0, lane 1 -/
def b_Land_start_of : Ss := .cons (.ret (.ix (.ix (.fld (.var 0) 19) (.var 1)) (.int 0))) .nil
def b_Land_start_of_N : List Str := ["self", "lane"]
/-- Land.end_of: self 0, lane 1 -/
def b_Land_end_of : Ss := .cons (.ret (.ix (.ix (.fld (.var 0) 19) (.var 1)) (.int 1))) .nil
def b_Land_end_of_N : List Str := ["self", "lane"]
/-- Land.out_of: self 0, place 1, lane 2 -/
def b_Land_out_of : Ss := .cons (.ret (.lc (.var 2) (.nm 2) (.rng (.cons (.bf .len (.cons (.fld (.var 0) 19) .nil)) .nil)) (.so (.cmp .eq (.ix (.ix (.fld (.var 0) 19) (.var 2)) (.int 0)) (.var 1))) [2])) .nil
def b_Land_out_of_N : List Str := ["self", "place", "lane"]
/-- Land.into: self 0, place 1, lane 2 -/
def b_Land_into : Ss := .cons (.ret (.lc (.var 2) (.nm 2) (.rng (.cons (.bf .len (.cons (.fld (.var 0) 19) .nil)) .nil)) (.so (.cmp .eq (.ix (.ix (.fld (.var 0) 19) (.var 2)) (.int 1)) (.var 1))) [2])) .nil
def b_Land_into_N : List Str := ["self", "place", "lane"]
/-- Table.__init__: self 0, land 1 -/
def b_Table_init : Ss := .cons (.setf (.var 0) 25 (.var 1)) .nil
def b_Table_init_N : List Str := ["self", "land"]
/-- Table.ways: self 0, place 1, goal 2, came 3 -/
def b_Table_ways : Ss := .cons (.ret (.lst (.nil))) .nil
def b_Table_ways_N : List Str := ["self", "place", "goal", "came"]
/-- Told.__init__: self 0, land 1, rows 2, number 3, row 4, place 5, goal 6, came 7, lanes 8 -/
def b_Told_init : Ss := .cons (.ex (.sup 24 0 (.cons (.var 0) (.cons (.var 1) .nil))))
    (.cons (.setf (.var 0) 30 (.dnew true))
    (.cons (.fr (.tp (.cons (.nm 3) (.cons (.nm 4) .nil))) (.enm (.var 2)) (.cons (.asg (.tp (.cons (.nm 5) (.cons (.nm 6) (.cons (.nm 7) (.cons (.nm 8) .nil))))) (.var 4))
    (.cons (.ife (.or_ (.cmp .isin (.tup (.cons (.var 5) (.cons (.var 6) (.cons (.var 7) .nil)))) (.fld (.var 0) 30)) (.not_ (.meth (.var 0) 102 (.cons (.var 5) (.cons (.var 6) (.cons (.var 7) (.cons (.var 8) .nil))))))) (.cons (.rne) .nil) (.nil))
    (.cons (.seti (.fld (.var 0) 30) (.tup (.cons (.var 5) (.cons (.var 6) (.cons (.var 7) .nil)))) (.bf .sortset (.cons (.var 8) .nil))) .nil)))) .nil))
def b_Told_init_N : List Str := ["self", "land", "rows", "number", "row", "place", "goal", "came", "lanes"]
/-- Told.is_good: self 0, place 1, goal 2, came 3, lanes 4, one 5, known 6, lane 7 -/
def b_Told_is_good : Ss := .cons (.fr (.nm 5) (.seq (.lst (.cons (.var 1) (.cons (.var 2) .nil)))) (.cons (.ife (.or_ (.cmp .lt (.var 5) (.int 0)) (.cmp .ge (.var 5) (.fld (.fld (.var 0) 25) 18))) (.cons (.ret (.bl false)) .nil) (.nil)) .nil))
    (.cons (.ife (.or_ (.cmp .eq (.var 1) (.var 2)) (.and_ (.cmp .notn (.var 3) (.non)) (.cmp .notin (.var 3) (.meth (.fld (.var 0) 25) 23 (.cons (.var 1) .nil))))) (.cons (.ret (.bl false)) .nil) (.nil))
    (.cons (.asg (.nm 6) (.meth (.fld (.var 0) 25) 22 (.cons (.var 1) .nil)))
    (.cons (.ret (.cmp .eq (.lc (.var 7) (.nm 7) (.seq (.var 4)) (.so (.cmp .notin (.var 7) (.var 6))) [7]) (.lst (.nil)))) .nil)))
def b_Told_is_good_N : List Str := ["self", "place", "goal", "came", "lanes", "one", "known", "lane"]
/-- Told.ways: self 0, place 1, goal 2, came 3 -/
def b_Told_ways : Ss := .cons (.ret (.bf .list (.cons (.bm .get (.fld (.var 0) 30) (.cons (.tup (.cons (.var 1) (.cons (.var 2) (.cons (.var 3) .nil)))) (.cons (.lst (.nil)) .nil))) .nil))) .nil
def b_Told_ways_N : List Str := ["self", "place", "goal", "came"]
/-- joined: wide 0, high 1, lanes 2, place 3, row 4, column 5 -/
def b_joined : Ss := .cons (.asg (.nm 2) (.lst (.nil)))
    (.cons (.fr (.nm 3) (.rng (.cons (.bin .mul (.var 0) (.var 1)) .nil)) (.cons (.asg (.tp (.cons (.nm 4) (.cons (.nm 5) .nil))) (.bf .divmod (.cons (.var 3) (.cons (.var 0) .nil))))
    (.cons (.ife (.cmp .lt (.bin .add (.var 5) (.int 1)) (.var 0)) (.cons (.ex (.bm .append (.var 2) (.cons (.tup (.cons (.var 3) (.cons (.bin .add (.var 3) (.int 1)) .nil))) .nil))) .nil) (.nil))
    (.cons (.ife (.cmp .gt (.var 5) (.int 0)) (.cons (.ex (.bm .append (.var 2) (.cons (.tup (.cons (.var 3) (.cons (.bin .sub (.var 3) (.int 1)) .nil))) .nil))) .nil) (.nil))
    (.cons (.ife (.cmp .lt (.bin .add (.var 4) (.int 1)) (.var 1)) (.cons (.ex (.bm .append (.var 2) (.cons (.tup (.cons (.var 3) (.cons (.bin .add (.var 3) (.var 0)) .nil))) .nil))) .nil) (.nil))
    (.cons (.ife (.cmp .gt (.var 4) (.int 0)) (.cons (.ex (.bm .append (.var 2) (.cons (.tup (.cons (.var 3) (.cons (.bin .sub (.var 3) (.var 0)) .nil))) .nil))) .nil) (.nil)) .nil))))))
    (.cons (.ret (.var 2)) .nil))
def b_joined_N : List Str := ["wide", "high", "lanes", "place", "row", "column"]
/-- RowFirst.__init__: self 0, wide 1, high 2 -/
def b_RowFirst_init : Ss := .cons (.ife (.or_ (.cmp .lt (.var 1) (.int 1)) (.or_ (.cmp .lt (.var 2) (.int 1)) (.cmp .gt (.bin .mul (.var 1) (.var 2)) (.int 12)))) (.cons (.rne) .nil) (.nil))
    (.cons (.ex (.sup 24 0 (.cons (.var 0) (.cons (.make 17 (.cons (.bin .mul (.var 1) (.var 2)) (.cons (.call 35 (.cons (.var 1) (.cons (.var 2) .nil))) .nil))) .nil))))
    (.cons (.setf (.var 0) 37 (.var 1)) .nil))
def b_RowFirst_init_N : List Str := ["self", "wide", "high"]
/-- RowFirst.ways: self 0, place 1, goal 2, came 3, row 4, column 5, low 6, side 7, other 8, lane 9 -/
def b_RowFirst_ways : Ss := .cons (.ife (.cmp .eq (.var 1) (.var 2)) (.cons (.ret (.lst (.nil))) .nil) (.nil))
    (.cons (.asg (.tp (.cons (.nm 4) (.cons (.nm 5) .nil))) (.bf .divmod (.cons (.var 1) (.cons (.fld (.var 0) 37) .nil))))
    (.cons (.asg (.tp (.cons (.nm 6) (.cons (.nm 7) .nil))) (.bf .divmod (.cons (.var 2) (.cons (.fld (.var 0) 37) .nil))))
    (.cons (.asg (.nm 8) (.bin .sub (.var 1) (.fld (.var 0) 37)))
    (.cons (.ife (.cmp .lt (.var 5) (.var 7)) (.cons (.asg (.nm 8) (.bin .add (.var 1) (.int 1))) .nil) (.cons (.ife (.cmp .gt (.var 5) (.var 7)) (.cons (.asg (.nm 8) (.bin .sub (.var 1) (.int 1))) .nil) (.cons (.ife (.cmp .lt (.var 4) (.var 6)) (.cons (.asg (.nm 8) (.bin .add (.var 1) (.fld (.var 0) 37))) .nil) (.nil)) .nil)) .nil))
    (.cons (.ret (.lc (.var 9) (.nm 9) (.seq (.meth (.fld (.var 0) 25) 22 (.cons (.var 1) .nil))) (.so (.cmp .eq (.meth (.fld (.var 0) 25) 21 (.cons (.var 9) .nil)) (.var 8))) [9])) .nil)))))
def b_RowFirst_ways_N : List Str := ["self", "place", "goal", "came", "row", "column", "low", "side", "other", "lane"]
/-- Loop.__init__: self 0, many 1, circle 2, place 3 -/
def b_Loop_init : Ss := .cons (.ife (.or_ (.cmp .lt (.var 1) (.int 2)) (.cmp .gt (.var 1) (.int 12))) (.cons (.rne) .nil) (.nil))
    (.cons (.asg (.nm 2) (.lc (.tup (.cons (.var 3) (.cons (.ix (.bf .divmod (.cons (.bin .add (.var 3) (.int 1)) (.cons (.var 1) .nil))) (.int 1)) .nil))) (.nm 3) (.rng (.cons (.var 1) .nil)) .no [3]))
    (.cons (.ex (.sup 24 0 (.cons (.var 0) (.cons (.make 17 (.cons (.var 1) (.cons (.bin .add (.var 2) (.var 2)) .nil))) .nil))))
    (.cons (.setf (.var 0) 39 (.var 1)) .nil)))
def b_Loop_init_N : List Str := ["self", "many", "circle", "place"]
/-- Loop.ways: self 0, place 1, goal 2, came 3 -/
def b_Loop_ways : Ss := .cons (.ife (.cmp .eq (.var 1) (.var 2)) (.cons (.ret (.lst (.nil))) .nil) (.nil))
    (.cons (.ife (.and_ (.cmp .notn (.var 3) (.non)) (.cmp .ge (.var 3) (.bin .sub (.fld (.var 0) 39) (.int 1)))) (.cons (.ret (.lst (.cons (.bin .add (.fld (.var 0) 39) (.var 1)) .nil))) .nil) (.nil))
    (.cons (.ret (.lst (.cons (.var 1) .nil))) .nil))
def b_Loop_ways_N : List Str := ["self", "place", "goal", "came"]
/-- are_parents: parents 0, k 1, above 2 -/
def b_are_parents : Ss := .cons (.ife (.cmp .gt (.bf .len (.cons (.var 0) .nil)) (.int 11)) (.cons (.ret (.bl false)) .nil) (.nil))
    (.cons (.fr (.tp (.cons (.nm 1) (.cons (.nm 2) .nil))) (.enm (.var 0)) (.cons (.ife (.or_ (.not_ (.isi (.var 2) .kint)) (.or_ (.isi (.var 2) .kbool) (.or_ (.cmp .lt (.var 2) (.int 0)) (.cmp .gt (.var 2) (.var 1))))) (.cons (.ret (.bl false)) .nil) (.nil)) .nil))
    (.cons (.ret (.bl true)) .nil))
def b_are_parents_N : List Str := ["parents", "k", "above"]
/-- Tree.__init__: self 0, parents 1, lanes 2, k 3, above 4 -/
def b_Tree_init : Ss := .cons (.ife (.not_ (.call 40 (.cons (.var 1) .nil))) (.cons (.rne) .nil) (.nil))
    (.cons (.asg (.nm 2) (.lst (.nil)))
    (.cons (.fr (.tp (.cons (.nm 3) (.cons (.nm 4) .nil))) (.enm (.var 1)) (.cons (.ex (.bm .append (.var 2) (.cons (.tup (.cons (.bin .add (.var 3) (.int 1)) (.cons (.var 4) .nil))) .nil)))
    (.cons (.ex (.bm .append (.var 2) (.cons (.tup (.cons (.var 4) (.cons (.bin .add (.var 3) (.int 1)) .nil))) .nil))) .nil)))
    (.cons (.ex (.sup 24 0 (.cons (.var 0) (.cons (.make 17 (.cons (.bin .add (.bf .len (.cons (.var 1) .nil)) (.int 1)) (.cons (.var 2) .nil))) .nil))))
    (.cons (.setf (.var 0) 42 (.bf .list (.cons (.var 1) .nil))) .nil))))
def b_Tree_init_N : List Str := ["self", "parents", "lanes", "k", "above"]
/-- Tree.ways: self 0, place 1, goal 2, came 3, beneath 4, above 5 -/
def b_Tree_ways : Ss := .cons (.ife (.cmp .eq (.var 1) (.var 2)) (.cons (.ret (.lst (.nil))) .nil) (.nil))
    (.cons (.asg (.nm 4) (.var 2))
    (.cons (.whl (.cmp .gt (.var 4) (.var 1)) (.cons (.asg (.nm 5) (.ix (.fld (.var 0) 42) (.bin .sub (.var 4) (.int 1))))
    (.cons (.ife (.cmp .eq (.var 5) (.var 1)) (.cons (.ret (.lst (.cons (.bin .sub (.bin .mul (.int 2) (.var 4)) (.int 1)) .nil))) .nil) (.nil))
    (.cons (.asg (.nm 4) (.var 5)) .nil))))
    (.cons (.ret (.lst (.cons (.bin .sub (.bin .mul (.int 2) (.var 1)) (.int 2)) .nil))) .nil)))
def b_Tree_ways_N : List Str := ["self", "place", "goal", "came", "beneath", "above"]
/-- distances: land 0, goal 1, found 2, reached 3, place 4, more 5, end 6, lane 7, start 8 -/
def b_distances : Ss := .cons (.asg (.nm 2) (.ddisp (.cons (.var 1) (.cons (.int 0) .nil))))
    (.cons (.asg (.nm 3) (.lst (.cons (.var 1) .nil)))
    (.cons (.fr (.nm 4) (.rng (.cons (.fld (.var 0) 18) .nil)) (.cons (.asg (.nm 5) (.lst (.nil)))
    (.cons (.fr (.nm 6) (.seq (.var 3)) (.cons (.fr (.nm 7) (.seq (.meth (.var 0) 23 (.cons (.var 6) .nil))) (.cons (.asg (.nm 8) (.meth (.var 0) 20 (.cons (.var 7) .nil)))
    (.cons (.ife (.cmp .notin (.var 8) (.var 2)) (.cons (.seti (.var 2) (.var 8) (.bin .add (.ix (.var 2) (.var 6)) (.int 1)))
    (.cons (.ex (.bm .append (.var 5) (.cons (.var 8) .nil))) .nil)) (.nil)) .nil))) .nil))
    (.cons (.asg (.nm 3) (.var 5)) .nil))))
    (.cons (.ret (.var 2)) .nil)))
def b_distances_N : List Str := ["land", "goal", "found", "reached", "place", "more", "end", "lane", "start"]
/-- Nearer.__init__: self 0, land 1, goal 2 -/
def b_Nearer_init : Ss := .cons (.ex (.sup 24 0 (.cons (.var 0) (.cons (.var 1) .nil))))
    (.cons (.setf (.var 0) 45 (.lc (.call 43 (.cons (.var 1) (.cons (.var 2) .nil))) (.nm 2) (.rng (.cons (.fld (.var 1) 18) .nil)) .no [2])) .nil)
def b_Nearer_init_N : List Str := ["self", "land", "goal"]
/-- Nearer.ways: self 0, place 1, goal 2, came 3, far 4, ends 5, lane 6, end 7 -/
def b_Nearer_ways : Ss := .cons (.asg (.nm 4) (.ix (.fld (.var 0) 45) (.var 2)))
    (.cons (.ife (.cmp .notin (.var 1) (.var 4)) (.cons (.ret (.lst (.nil))) .nil) (.nil))
    (.cons (.asg (.nm 5) (.lc (.tup (.cons (.var 6) (.cons (.meth (.fld (.var 0) 25) 21 (.cons (.var 6) .nil)) .nil))) (.nm 6) (.seq (.meth (.fld (.var 0) 25) 22 (.cons (.var 1) .nil))) .no [6]))
    (.cons (.ret (.lc (.var 6) (.tp (.cons (.nm 6) (.cons (.nm 7) .nil))) (.seq (.var 5)) (.so (.and_ (.cmp .isin (.var 7) (.var 4)) (.cmp .eq (.bin .add (.ix (.var 4) (.var 7)) (.int 1)) (.ix (.var 4) (.var 1))))) [6, 7])) .nil)))
def b_Nearer_ways_N : List Str := ["self", "place", "goal", "came", "far", "ends", "lane", "end"]
/-- row_text: words 0, word 1 -/
def b_row_text : Ss := .cons (.ret (.bm .join (.str " ") (.cons (.lc (.bf .str (.cons (.var 1) .nil)) (.nm 1) (.seq (.var 0)) .no [1]) .nil))) .nil
def b_row_text_N : List Str := ["words", "word"]
/-- way_rows: table 0, place 1, goal 2, rows 3, ways 4, came 5 -/
def b_way_rows : Ss := .cons (.asg (.nm 3) (.lst (.nil)))
    (.cons (.asg (.nm 4) (.meth (.var 0) 26 (.cons (.var 1) (.cons (.var 2) (.cons (.non) .nil)))))
    (.cons (.ife (.cmp .ne (.var 4) (.lst (.nil))) (.cons (.ex (.bm .append (.var 3) (.cons (.call 103 (.cons (.bin .add (.lst (.cons (.str "way") (.cons (.var 1) (.cons (.var 2) (.cons (.str "-") .nil))))) (.var 4)) .nil)) .nil))) .nil) (.nil))
    (.cons (.fr (.nm 5) (.seq (.meth (.fld (.var 0) 25) 23 (.cons (.var 1) .nil))) (.cons (.asg (.nm 4) (.meth (.var 0) 26 (.cons (.var 1) (.cons (.var 2) (.cons (.var 5) .nil)))))
    (.cons (.ife (.cmp .ne (.var 4) (.lst (.nil))) (.cons (.ex (.bm .append (.var 3) (.cons (.call 103 (.cons (.bin .add (.lst (.cons (.str "way") (.cons (.var 1) (.cons (.var 2) (.cons (.var 5) .nil))))) (.var 4)) .nil)) .nil))) .nil) (.nil)) .nil)))
    (.cons (.ret (.var 3)) .nil))))
def b_way_rows_N : List Str := ["table", "place", "goal", "rows", "ways", "came"]
/-- table_text: table 0, rows 1, start 2, end 3, place 4, goal 5 -/
def b_table_text : Ss := .cons (.asg (.nm 1) (.lst (.cons (.call 103 (.cons (.lst (.cons (.str "places") (.cons (.fld (.fld (.var 0) 25) 18) .nil))) .nil)) .nil)))
    (.cons (.fr (.tp (.cons (.nm 2) (.cons (.nm 3) .nil))) (.seq (.fld (.fld (.var 0) 25) 19)) (.cons (.ex (.bm .append (.var 1) (.cons (.call 103 (.cons (.lst (.cons (.str "lane") (.cons (.var 2) (.cons (.var 3) .nil)))) .nil)) .nil))) .nil))
    (.cons (.fr (.nm 4) (.rng (.cons (.fld (.fld (.var 0) 25) 18) .nil)) (.cons (.fr (.nm 5) (.rng (.cons (.fld (.fld (.var 0) 25) 18) .nil)) (.cons (.ife (.cmp .ne (.var 4) (.var 5)) (.cons (.asg (.nm 1) (.bin .add (.var 1) (.call 104 (.cons (.var 0) (.cons (.var 4) (.cons (.var 5) .nil)))))) .nil) (.nil)) .nil)) .nil))
    (.cons (.ret (.bm .join (.str "\n") (.cons (.var 1) .nil))) .nil)))
def b_table_text_N : List Str := ["table", "rows", "start", "end", "place", "goal"]
/-- number_of: word 0, figures 1, sign 2 -/
def b_number_of : Ss := .cons (.asg (.nm 1) (.var 0))
    (.cons (.ife (.bm .startswith (.var 0) (.cons (.str "-") .nil)) (.cons (.asg (.nm 1) (.sl (.var 0) (.so (.int 1)) .no)) .nil) (.nil))
    (.cons (.ife (.or_ (.cmp .eq (.var 1) (.str "")) (.or_ (.cmp .gt (.bf .len (.cons (.var 1) .nil)) (.int 60)) (.cmp .ne (.lc (.var 2) (.nm 2) (.seq (.var 1)) (.so (.cmp .notin (.var 2) (.glo 253 "0123456789"))) [2]) (.lst (.nil))))) (.cons (.rne) .nil) (.nil))
    (.cons (.ife (.cmp .ne (.var 1) (.var 0)) (.cons (.ret (.neg (.bf .int (.cons (.var 1) .nil)))) .nil) (.nil))
    (.cons (.ret (.bf .int (.cons (.var 1) .nil))) .nil))))
def b_number_of_N : List Str := ["word", "figures", "sign"]
/-- numbers_of: words 0, word 1 -/
def b_numbers_of : Ss := .cons (.ret (.lc (.call 106 (.cons (.var 1) .nil)) (.nm 1) (.seq (.var 0)) .no [1])) .nil
def b_numbers_of_N : List Str := ["words", "word"]
/-- entry_of: words 0, came 1 -/
def b_entry_of : Ss := .cons (.asg (.nm 1) (.non))
    (.cons (.ife (.cmp .ne (.ix (.var 0) (.int 3)) (.str "-")) (.cons (.asg (.nm 1) (.call 106 (.cons (.ix (.var 0) (.int 3)) .nil))) .nil) (.nil))
    (.cons (.ret (.tup (.cons (.call 106 (.cons (.ix (.var 0) (.int 1)) .nil)) (.cons (.call 106 (.cons (.ix (.var 0) (.int 2)) .nil)) (.cons (.var 1) (.cons (.call 107 (.cons (.sl (.var 0) (.so (.int 4)) .no) .nil)) .nil)))))) .nil))
def b_entry_of_N : List Str := ["words", "came"]
/-- table_of: rows 0, lanes 1, entries 2, words 3 -/
def b_table_of : Ss := .cons (.ife (.or_ (.cmp .ne (.bf .len (.cons (.ix (.var 0) (.int 0)) .nil)) (.int 2)) (.cmp .ne (.ix (.ix (.var 0) (.int 0)) (.int 0)) (.str "places"))) (.cons (.rne) .nil) (.nil))
    (.cons (.asg (.nm 1) (.lst (.nil)))
    (.cons (.asg (.nm 2) (.lst (.nil)))
    (.cons (.fr (.nm 3) (.seq (.sl (.var 0) (.so (.int 1)) .no)) (.cons (.ife (.and_ (.cmp .eq (.ix (.var 3) (.int 0)) (.str "lane")) (.cmp .eq (.bf .len (.cons (.var 3) .nil)) (.int 3))) (.cons (.ex (.bm .append (.var 1) (.cons (.tup (.cons (.call 106 (.cons (.ix (.var 3) (.int 1)) .nil)) (.cons (.call 106 (.cons (.ix (.var 3) (.int 2)) .nil)) .nil))) .nil))) .nil) (.cons (.ife (.and_ (.cmp .eq (.ix (.var 3) (.int 0)) (.str "way")) (.cmp .gt (.bf .len (.cons (.var 3) .nil)) (.int 4))) (.cons (.ex (.bm .append (.var 2) (.cons (.call 108 (.cons (.var 3) .nil)) .nil))) .nil) (.cons (.rne) .nil)) .nil)) .nil))
    (.cons (.ret (.make 101 (.cons (.make 17 (.cons (.call 106 (.cons (.ix (.ix (.var 0) (.int 0)) (.int 1)) .nil)) (.cons (.var 1) .nil))) (.cons (.var 2) .nil)))) .nil))))
def b_table_of_N : List Str := ["rows", "lanes", "entries", "words"]
/-- rows_of: text 0, row 1 -/
def b_rows_of : Ss := .cons (.ife (.not_ (.isi (.var 0) .kstr)) (.cons (.rne) .nil) (.nil))
    (.cons (.ret (.lc (.bm .split (.var 1) (.cons (.str " ") .nil)) (.nm 1) (.seq (.bm .split (.var 0) (.cons (.str "\n") .nil))) .no [1])) .nil)
def b_rows_of_N : List Str := ["text", "row"]
/-- read_table: text 0, rows 1, table 2 -/
def b_read_table : Ss := .cons (.asg (.nm 1) (.call 110 (.cons (.var 0) .nil)))
    (.cons (.asg (.nm 2) (.non))
    (.cons (.trn (.cons (.asg (.nm 2) (.call 109 (.cons (.var 1) .nil))) .nil))
    (.cons (.ife (.cmp .ne (.call 105 (.cons (.var 2) .nil)) (.var 0)) (.cons (.rne) .nil) (.nil))
    (.cons (.ret (.var 2)) .nil))))
def b_read_table_N : List Str := ["text", "rows", "table"]
/-- _law_cell_at: script 0, k 1 -/
def b_law_cell_at : Ss := .cons (.ife (.cmp .lt (.var 1) (.bf .len (.cons (.var 0) .nil))) (.cons (.ret (.ix (.var 0) (.var 1))) .nil) (.nil))
    (.cons (.ret (.int 0)) .nil)
def b_law_cell_at_N : List Str := ["script", "k"]
/-- _law_digit: state 0, base 1, cell 2, found 3, number 4 -/
def b_law_digit : Ss := .cons (.ife (.cmp .eq (.bf .len (.cons (.var 0) .nil)) (.int 1)) (.cons (.asg (.nm 2) (.ix (.var 0) (.int 0)))
    (.cons (.seti (.var 0) (.int 0) (.ix (.lst (.cons (.int 0) (.cons (.var 2) .nil))) (.bf .int (.cons (.cmp .ge (.var 2) (.bin .pow (.int 10) (.int 18))) .nil))))
    (.cons (.ex (.bm .extend (.var 0) (.cons (.lst (.cons (.bin .mod (.bf .int (.cons (.var 2) .nil)) (.int 2147483647)) (.cons (.int 0) .nil))) .nil))) .nil))) (.nil))
    (.cons (.ife (.cmp .gt (.ix (.var 0) (.int 0)) (.int 0)) (.cons (.asg (.nm 3) (.bin .mod (.bf .int (.cons (.ix (.var 0) (.int 0)) .nil)) (.var 1)))
    (.cons (.seti (.var 0) (.int 0) (.bin .div (.ix (.var 0) (.int 0)) (.var 1)))
    (.cons (.ret (.var 3)) .nil))) (.nil))
    (.cons (.seti (.var 0) (.int 2) (.bin .add (.ix (.var 0) (.int 2)) (.int 1)))
    (.cons (.asg (.nm 4) (.bin .mod (.bf .int (.cons (.bin .mul (.bin .add (.bin .add (.ix (.var 0) (.int 1)) (.bin .mul (.int 7919) (.ix (.var 0) (.int 2)))) (.int 1)) (.int 48271)) .nil)) (.int 2147483647)))
    (.cons (.asg (.nm 4) (.bin .mod (.bf .int (.cons (.bin .mul (.var 4) (.bin .add (.bin .div (.var 4) (.int 1009)) (.int 69621))) .nil)) (.int 2147483647)))
    (.cons (.ret (.bin .mod (.bin .mod (.bf .int (.cons (.bin .mul (.var 4) (.bin .add (.bin .div (.var 4) (.int 2003)) (.int 40692))) .nil)) (.int 2147483399)) (.var 1))) .nil)))))
def b_law_digit_N : List Str := ["state", "base", "cell", "found", "number"]
/-- _law_pairs: state 0, places 1, most 2, pairs 3, k 4, start 5 -/
def b_law_pairs : Ss := .cons (.asg (.nm 3) (.lst (.nil)))
    (.cons (.ife (.cmp .gt (.var 1) (.int 1)) (.cons (.fr (.nm 4) (.rng (.cons (.call 82 (.cons (.var 0) (.cons (.bin .add (.var 2) (.int 1)) .nil))) .nil)) (.cons (.asg (.nm 5) (.call 82 (.cons (.var 0) (.cons (.var 1) .nil))))
    (.cons (.ex (.bm .append (.var 3) (.cons (.tup (.cons (.var 5) (.cons (.bin .mod (.bf .int (.cons (.bin .add (.bin .add (.var 5) (.int 1)) (.call 82 (.cons (.var 0) (.cons (.bin .sub (.var 1) (.int 1)) .nil)))) .nil)) (.var 1)) .nil))) .nil))) .nil))) .nil) (.nil))
    (.cons (.ret (.var 3)) .nil))
def b_law_pairs_N : List Str := ["state", "places", "most", "pairs", "k", "start"]
/-- _law_parents: state 0, most 1, k 2 -/
def b_law_parents : Ss := .cons (.ret (.lc (.call 82 (.cons (.var 0) (.cons (.bin .add (.var 2) (.int 1)) .nil))) (.nm 2) (.rng (.cons (.call 82 (.cons (.var 0) (.cons (.bin .add (.var 1) (.int 1)) .nil))) .nil)) .no [2])) .nil
def b_law_parents_N : List Str := ["state", "most", "k"]
/-- _law_rows: state 0, places 1, pairs 2, rows 3, place 4, out 5, k 6, came 7, goal 8, ways 9 -/
def b_law_rows : Ss := .cons (.asg (.nm 3) (.lst (.nil)))
    (.cons (.fr (.nm 4) (.rng (.cons (.var 1) .nil)) (.cons (.asg (.nm 5) (.lc (.var 6) (.nm 6) (.rng (.cons (.bf .len (.cons (.var 2) .nil)) .nil)) (.so (.cmp .eq (.ix (.ix (.var 2) (.var 6)) (.int 0)) (.var 4))) [6]))
    (.cons (.fr (.nm 7) (.seq (.bin .add (.lst (.cons (.non) .nil)) (.lc (.var 6) (.nm 6) (.rng (.cons (.bf .len (.cons (.var 2) .nil)) .nil)) (.so (.cmp .eq (.ix (.ix (.var 2) (.var 6)) (.int 1)) (.var 4))) [6]))) (.cons (.fr (.nm 8) (.rng (.cons (.var 1) .nil)) (.cons (.ife (.cmp .ne (.var 8) (.var 4)) (.cons (.asg (.nm 9) (.lc (.var 6) (.nm 6) (.seq (.var 5)) (.so (.cmp .gt (.call 82 (.cons (.var 0) (.cons (.int 3) .nil))) (.int 0))) [6]))
    (.cons (.ex (.bm .append (.var 3) (.cons (.tup (.cons (.var 4) (.cons (.var 8) (.cons (.var 7) (.cons (.var 9) .nil))))) .nil))) .nil)) (.nil)) .nil)) .nil)) .nil)))
    (.cons (.ret (.var 3)) .nil))
def b_law_rows_N : List Str := ["state", "places", "pairs", "rows", "place", "out", "k", "came", "goal", "ways"]
/-- _law_row_lanes: wide 0, high 1, found 2, place 3 -/
def b_law_row_lanes : Ss := .cons (.asg (.nm 2) (.lst (.nil)))
    (.cons (.fr (.nm 3) (.rng (.cons (.bin .mul (.var 0) (.var 1)) .nil)) (.cons (.ife (.cmp .lt (.bin .add (.bin .mod (.bf .int (.cons (.var 3) .nil)) (.var 0)) (.int 1)) (.var 0)) (.cons (.ex (.bm .append (.var 2) (.cons (.tup (.cons (.var 3) (.cons (.bin .add (.var 3) (.int 1)) .nil))) .nil))) .nil) (.nil))
    (.cons (.ife (.cmp .gt (.bin .mod (.bf .int (.cons (.var 3) .nil)) (.var 0)) (.int 0)) (.cons (.ex (.bm .append (.var 2) (.cons (.tup (.cons (.var 3) (.cons (.bin .sub (.var 3) (.int 1)) .nil))) .nil))) .nil) (.nil))
    (.cons (.ife (.cmp .lt (.bin .add (.bin .div (.var 3) (.var 0)) (.int 1)) (.var 1)) (.cons (.ex (.bm .append (.var 2) (.cons (.tup (.cons (.var 3) (.cons (.bin .add (.var 3) (.var 0)) .nil))) .nil))) .nil) (.nil))
    (.cons (.ife (.cmp .gt (.bin .div (.var 3) (.var 0)) (.int 0)) (.cons (.ex (.bm .append (.var 2) (.cons (.tup (.cons (.var 3) (.cons (.bin .sub (.var 3) (.var 0)) .nil))) .nil))) .nil) (.nil)) .nil)))))
    (.cons (.ret (.var 2)) .nil))
def b_law_row_lanes_N : List Str := ["wide", "high", "found", "place"]
/-- _law_row_ways: wide 0, lanes 1, place 2, goal 3, other 4 -/
def b_law_row_ways : Ss := .cons (.asg (.nm 4) (.bin .add (.var 2) (.var 0)))
    (.cons (.ife (.cmp .ne (.bin .mod (.bf .int (.cons (.var 2) .nil)) (.var 0)) (.bin .mod (.bf .int (.cons (.var 3) .nil)) (.var 0))) (.cons (.asg (.nm 4) (.bin .add (.var 2) (.ix (.lst (.cons (.neg (.int 1)) (.cons (.int 1) .nil))) (.bf .int (.cons (.cmp .gt (.bin .mod (.bf .int (.cons (.var 3) .nil)) (.var 0)) (.bin .mod (.bf .int (.cons (.var 2) .nil)) (.var 0))) .nil))))) .nil) (.cons (.ife (.cmp .lt (.var 3) (.var 2)) (.cons (.asg (.nm 4) (.bin .sub (.var 2) (.var 0))) .nil) (.nil)) .nil))
    (.cons (.ret (.lst (.cons (.bm .index (.var 1) (.cons (.tup (.cons (.var 2) (.cons (.var 4) .nil))) .nil)) .nil))) .nil))
def b_law_row_ways_N : List Str := ["wide", "lanes", "place", "goal", "other"]
/-- _law_loop_ways: many 0, place 1, came 2 -/
def b_law_loop_ways : Ss := .cons (.ret (.lst (.cons (.bin .add (.var 1) (.bin .mul (.var 0) (.bf .int (.cons (.and_ (.cmp .notn (.var 2) (.non)) (.or_ (.cmp .eq (.var 2) (.bin .sub (.var 0) (.int 1))) (.cmp .ge (.var 2) (.var 0)))) .nil)))) .nil))) .nil
def b_law_loop_ways_N : List Str := ["many", "place", "came"]
/-- _law_tree_ways: parents 0, place 1, goal 2, below 3, at 4 -/
def b_law_tree_ways : Ss := .cons (.asg (.nm 3) (.var 2))
    (.cons (.asg (.nm 4) (.var 2))
    (.cons (.whl (.and_ (.cmp .ne (.var 4) (.int 0)) (.cmp .ne (.var 4) (.var 1))) (.cons (.asg (.nm 3) (.var 4))
    (.cons (.asg (.nm 4) (.ix (.var 0) (.bin .sub (.var 4) (.int 1)))) .nil)))
    (.cons (.ife (.cmp .eq (.var 4) (.var 1)) (.cons (.ret (.lst (.cons (.bin .sub (.bin .mul (.int 2) (.var 3)) (.int 1)) .nil))) .nil) (.nil))
    (.cons (.ret (.lst (.cons (.bin .sub (.bin .mul (.int 2) (.var 1)) (.int 2)) .nil))) .nil))))
def b_law_tree_ways_N : List Str := ["parents", "place", "goal", "below", "at"]
/-- _law_far: places 0, lanes 1, goal 2, far 3, turn 4, start 5, end 6 -/
def b_law_far : Ss := .cons (.asg (.nm 3) (.ddisp (.cons (.var 2) (.cons (.int 0) .nil))))
    (.cons (.fr (.nm 4) (.rng (.cons (.var 0) .nil)) (.cons (.fr (.tp (.cons (.nm 5) (.cons (.nm 6) .nil))) (.seq (.var 1)) (.cons (.ife (.and_ (.cmp .eq (.bm .get (.var 3) (.cons (.var 6) (.cons (.neg (.int 1)) .nil))) (.var 4)) (.cmp .notin (.var 5) (.var 3))) (.cons (.seti (.var 3) (.var 5) (.bin .add (.var 4) (.int 1))) .nil) (.nil)) .nil)) .nil))
    (.cons (.ret (.var 3)) .nil))
def b_law_far_N : List Str := ["places", "lanes", "goal", "far", "turn", "start", "end"]
/-- _law_near_ways: places 0, lanes 1, place 2, goal 3, far 4, k 5 -/
def b_law_near_ways : Ss := .cons (.asg (.nm 4) (.call 116 (.cons (.var 0) (.cons (.var 1) (.cons (.var 3) .nil)))))
    (.cons (.ife (.cmp .notin (.var 2) (.var 4)) (.cons (.ret (.lst (.nil))) .nil) (.nil))
    (.cons (.ret (.lc (.var 5) (.nm 5) (.rng (.cons (.bf .len (.cons (.var 1) .nil)) .nil)) (.so (.and_ (.cmp .eq (.ix (.ix (.var 1) (.var 5)) (.int 0)) (.var 2)) (.cmp .eq (.bm .get (.var 4) (.cons (.ix (.ix (.var 1) (.var 5)) (.int 1)) (.cons (.neg (.int 9)) .nil))) (.bin .sub (.ix (.var 4) (.var 2)) (.int 1))))) [5])) .nil))
def b_law_near_ways_N : List Str := ["places", "lanes", "place", "goal", "far", "k"]
/-- _law_ways: kind 0, place 1, goal 2, came 3 -/
def b_law_ways : Ss := .cons (.ife (.cmp .eq (.var 1) (.var 2)) (.cons (.ret (.lst (.nil))) .nil) (.nil))
    (.cons (.ife (.cmp .eq (.ix (.var 0) (.int 0)) (.str "rows")) (.cons (.ret (.call 113 (.cons (.ix (.var 0) (.int 1)) (.cons (.ix (.var 0) (.int 2)) (.cons (.var 1) (.cons (.var 2) .nil)))))) .nil) (.nil))
    (.cons (.ife (.cmp .eq (.ix (.var 0) (.int 0)) (.str "loop")) (.cons (.ret (.call 114 (.cons (.ix (.var 0) (.int 1)) (.cons (.var 1) (.cons (.var 3) .nil))))) .nil) (.nil))
    (.cons (.ife (.cmp .eq (.ix (.var 0) (.int 0)) (.str "tree")) (.cons (.ret (.call 115 (.cons (.ix (.var 0) (.int 1)) (.cons (.var 1) (.cons (.var 2) .nil))))) .nil) (.nil))
    (.cons (.ret (.call 117 (.cons (.ix (.var 0) (.int 1)) (.cons (.ix (.var 0) (.int 2)) (.cons (.var 1) (.cons (.var 2) .nil)))))) .nil))))
def b_law_ways_N : List Str := ["kind", "place", "goal", "came"]
/-- _law_text: kind 0, places 1, lanes 2, text 3, start 4, end 5, place 6, goal 7, came 8, k 9, ways 10, words 11, way 12 -/
def b_law_text : Ss := .cons (.asg (.nm 3) (.bin .add (.str "places ") (.bf .str (.cons (.var 1) .nil))))
    (.cons (.fr (.tp (.cons (.nm 4) (.cons (.nm 5) .nil))) (.seq (.var 2)) (.cons (.asg (.nm 3) (.bin .add (.bin .add (.bin .add (.bin .add (.var 3) (.str "\nlane ")) (.bf .str (.cons (.var 4) .nil))) (.str " ")) (.bf .str (.cons (.var 5) .nil)))) .nil))
    (.cons (.fr (.nm 6) (.rng (.cons (.var 1) .nil)) (.cons (.fr (.nm 7) (.rng (.cons (.var 1) .nil)) (.cons (.fr (.nm 8) (.seq (.bin .add (.lst (.cons (.non) .nil)) (.lc (.var 9) (.nm 9) (.rng (.cons (.bf .len (.cons (.var 2) .nil)) .nil)) (.so (.cmp .eq (.ix (.ix (.var 2) (.var 9)) (.int 1)) (.var 6))) [9]))) (.cons (.asg (.nm 10) (.call 118 (.cons (.var 0) (.cons (.var 6) (.cons (.var 7) (.cons (.var 8) .nil))))))
    (.cons (.ife (.cmp .ne (.var 10) (.lst (.nil))) (.cons (.asg (.nm 11) (.bin .add (.lst (.cons (.bf .str (.cons (.var 6) .nil)) (.cons (.bf .str (.cons (.var 7) .nil)) (.cons (.ix (.lst (.cons (.bf .str (.cons (.var 8) .nil)) (.cons (.str "-") .nil))) (.bf .int (.cons (.cmp .isn (.var 8) (.non)) .nil))) .nil)))) (.lc (.bf .str (.cons (.var 12) .nil)) (.nm 12) (.seq (.var 10)) .no [12])))
    (.cons (.asg (.nm 3) (.bin .add (.bin .add (.var 3) (.str "\nway ")) (.bm .join (.str " ") (.cons (.var 11) .nil)))) .nil)) (.nil)) .nil))) .nil)) .nil))
    (.cons (.ret (.var 3)) .nil)))
def b_law_text_N : List Str := ["kind", "places", "lanes", "text", "start", "end", "place", "goal", "came", "k", "ways", "words", "way"]
/-- _law_right: table 0, kind 1, places 2, lanes 3, text 4, back 5, place 6, goal 7, came 8, k 9, due 10 -/
def b_law_right : Ss := .cons (.ife (.or_ (.cmp .ne (.fld (.fld (.var 0) 25) 18) (.var 2)) (.cmp .ne (.bf .list (.cons (.fld (.fld (.var 0) 25) 19) .nil)) (.var 3))) (.cons (.ret (.bl false)) .nil) (.nil))
    (.cons (.asg (.nm 4) (.call 105 (.cons (.var 0) .nil)))
    (.cons (.ife (.cmp .ne (.var 4) (.call 119 (.cons (.var 1) (.cons (.var 2) (.cons (.var 3) .nil))))) (.cons (.ret (.bl false)) .nil) (.nil))
    (.cons (.asg (.nm 5) (.call 111 (.cons (.var 4) .nil)))
    (.cons (.fr (.nm 6) (.rng (.cons (.var 2) .nil)) (.cons (.fr (.nm 7) (.rng (.cons (.var 2) .nil)) (.cons (.fr (.nm 8) (.seq (.bin .add (.lst (.cons (.non) .nil)) (.lc (.var 9) (.nm 9) (.rng (.cons (.bf .len (.cons (.var 3) .nil)) .nil)) (.so (.cmp .eq (.ix (.ix (.var 3) (.var 9)) (.int 1)) (.var 6))) [9]))) (.cons (.asg (.nm 10) (.call 118 (.cons (.var 1) (.cons (.var 6) (.cons (.var 7) (.cons (.var 8) .nil))))))
    (.cons (.ife (.or_ (.cmp .ne (.meth (.var 0) 26 (.cons (.var 6) (.cons (.var 7) (.cons (.var 8) .nil)))) (.var 10)) (.cmp .ne (.meth (.var 5) 26 (.cons (.var 6) (.cons (.var 7) (.cons (.var 8) .nil)))) (.var 10))) (.cons (.ret (.bl false)) .nil) (.nil)) .nil))) .nil)) .nil))
    (.cons (.ret (.bl true)) .nil)))))
def b_law_right_N : List Str := ["table", "kind", "places", "lanes", "text", "back", "place", "goal", "came", "k", "due"]
/-- _law_rows_right: state 0, wide 1, high 2, lanes 3 -/
def b_law_rows_right : Ss := .cons (.asg (.nm 1) (.bin .add (.int 1) (.call 82 (.cons (.var 0) (.cons (.int 12) .nil)))))
    (.cons (.asg (.nm 2) (.bin .add (.int 1) (.call 82 (.cons (.var 0) (.cons (.bin .div (.int 12) (.var 1)) .nil)))))
    (.cons (.asg (.nm 3) (.call 112 (.cons (.var 1) (.cons (.var 2) .nil))))
    (.cons (.ret (.call 120 (.cons (.make 36 (.cons (.var 1) (.cons (.var 2) .nil))) (.cons (.tup (.cons (.str "rows") (.cons (.var 1) (.cons (.var 3) .nil)))) (.cons (.bin .mul (.var 1) (.var 2)) (.cons (.var 3) .nil)))))) .nil)))
def b_law_rows_right_N : List Str := ["state", "wide", "high", "lanes"]
/-- _law_loop_right: state 0, many 1, lanes 2, k 3 -/
def b_law_loop_right : Ss := .cons (.asg (.nm 1) (.bin .add (.int 2) (.call 82 (.cons (.var 0) (.cons (.int 11) .nil)))))
    (.cons (.asg (.nm 2) (.lc (.tup (.cons (.var 3) (.cons (.bin .mod (.bf .int (.cons (.bin .add (.var 3) (.int 1)) .nil)) (.var 1)) .nil))) (.nm 3) (.rng (.cons (.var 1) .nil)) .no [3]))
    (.cons (.ret (.call 120 (.cons (.make 38 (.cons (.var 1) .nil)) (.cons (.tup (.cons (.str "loop") (.cons (.var 1) .nil))) (.cons (.var 1) (.cons (.bin .add (.var 2) (.var 2)) .nil)))))) .nil))
def b_law_loop_right_N : List Str := ["state", "many", "lanes", "k"]
/-- _law_tree_right: state 0, parents 1, lanes 2, k 3 -/
def b_law_tree_right : Ss := .cons (.asg (.nm 1) (.call 84 (.cons (.var 0) (.cons (.int 11) .nil))))
    (.cons (.asg (.nm 2) (.lst (.nil)))
    (.cons (.fr (.nm 3) (.rng (.cons (.bf .len (.cons (.var 1) .nil)) .nil)) (.cons (.asg (.nm 2) (.bin .add (.var 2) (.lst (.cons (.tup (.cons (.bin .add (.var 3) (.int 1)) (.cons (.ix (.var 1) (.var 3)) .nil))) (.cons (.tup (.cons (.ix (.var 1) (.var 3)) (.cons (.bin .add (.var 3) (.int 1)) .nil))) .nil))))) .nil))
    (.cons (.ret (.call 120 (.cons (.make 41 (.cons (.var 1) .nil)) (.cons (.tup (.cons (.str "tree") (.cons (.var 1) .nil))) (.cons (.bin .add (.bf .len (.cons (.var 1) .nil)) (.int 1)) (.cons (.var 2) .nil)))))) .nil)))
def b_law_tree_right_N : List Str := ["state", "parents", "lanes", "k"]
/-- law: script 0, cell 1, state 2, places 3, pairs 4 -/
def b_law : Ss := .cons (.fr (.nm 1) (.seq (.bin .add (.sl (.var 0) .no (.so (.int 4))) (.lst (.cons (.int 3) .nil)))) (.cons (.asg (.nm 2) (.lst (.cons (.var 1) .nil)))
    (.cons (.ife (.or_ (.not_ (.call 121 (.cons (.var 2) .nil))) (.or_ (.not_ (.call 122 (.cons (.var 2) .nil))) (.not_ (.call 123 (.cons (.var 2) .nil))))) (.cons (.ret (.bl false)) .nil) (.nil))
    (.cons (.asg (.nm 3) (.bin .add (.int 1) (.call 82 (.cons (.var 2) (.cons (.int 7) .nil)))))
    (.cons (.asg (.nm 4) (.call 83 (.cons (.var 2) (.cons (.var 3) (.cons (.int 14) .nil)))))
    (.cons (.ife (.not_ (.call 120 (.cons (.make 44 (.cons (.make 17 (.cons (.var 3) (.cons (.var 4) .nil))) .nil)) (.cons (.tup (.cons (.str "near") (.cons (.var 3) (.cons (.var 4) .nil)))) (.cons (.var 3) (.cons (.var 4) .nil)))))) (.cons (.ret (.bl false)) .nil) (.nil)) .nil))))))
    (.cons (.ret (.bl true)) .nil)
def b_law_N : List Str := ["script", "cell", "state", "places", "pairs"]

def d_Land_init : Df := ⟨17, 0, ⟨atOf 17 0, "__init__", "Land.__init__", defArgs (mt 8 0), defBody (mt 8 0), defScope (mt 8 0), [], []⟩, b_Land_init_N, ["self", "places", "lanes"], b_Land_init⟩
def d_Land_start_of : Df := ⟨17, 20, ⟨atOf 17 20, "start_of", "Land.start_of", defArgs (mt 8 1), defBody (mt 8 1), defScope (mt 8 1), [], []⟩, b_Land_start_of_N, ["self", "lane"], b_Land_start_of⟩
def d_Land_end_of : Df := ⟨17, 21, ⟨atOf 17 21, "end_of", "Land.end_of", defArgs (mt 8 2), defBody (mt 8 2), defScope (mt 8 2), [], []⟩, b_Land_end_of_N, ["self", "lane"], b_Land_end_of⟩
def d_Land_out_of : Df := ⟨17, 22, ⟨atOf 17 22, "out_of", "Land.out_of", defArgs (mt 8 3), defBody (mt 8 3), defScope (mt 8 3), [], []⟩, b_Land_out_of_N, ["self", "place"], b_Land_out_of⟩
def d_Land_into : Df := ⟨17, 23, ⟨atOf 17 23, "into", "Land.into", defArgs (mt 8 4), defBody (mt 8 4), defScope (mt 8 4), [], []⟩, b_Land_into_N, ["self", "place"], b_Land_into⟩
def d_Table_init : Df := ⟨24, 0, ⟨atOf 24 0, "__init__", "Table.__init__", defArgs (mt 10 0), defBody (mt 10 0), defScope (mt 10 0), [], []⟩, b_Table_init_N, ["self", "land"], b_Table_init⟩
def d_Table_ways : Df := ⟨24, 26, ⟨atOf 24 26, "ways", "Table.ways", defArgs (mt 10 1), defBody (mt 10 1), defScope (mt 10 1), [], []⟩, b_Table_ways_N, ["self", "place", "goal", "came"], b_Table_ways⟩
def d_Told_init : Df := ⟨101, 0, ⟨atOf 101 0, "__init__", "Told.__init__", defArgs (mt 11 0), defBody (mt 11 0), defScope (mt 11 0), [], []⟩, b_Told_init_N, ["self", "land", "rows"], b_Told_init⟩
def d_Told_is_good : Df := ⟨101, 102, ⟨atOf 101 102, "is_good", "Told.is_good", defArgs (mt 11 1), defBody (mt 11 1), defScope (mt 11 1), [], []⟩, b_Told_is_good_N, ["self", "place", "goal", "came", "lanes"], b_Told_is_good⟩
def d_Told_ways : Df := ⟨101, 26, ⟨atOf 101 26, "ways", "Told.ways", defArgs (mt 11 2), defBody (mt 11 2), defScope (mt 11 2), [], []⟩, b_Told_ways_N, ["self", "place", "goal", "came"], b_Told_ways⟩
def d_joined : Df := ⟨0, 35, ⟨atOf 0 35, "joined", "joined", defArgs (tp 13), defBody (tp 13), defScope (tp 13), [], []⟩, b_joined_N, ["wide", "high"], b_joined⟩
def d_RowFirst_init : Df := ⟨36, 0, ⟨atOf 36 0, "__init__", "RowFirst.__init__", defArgs (mt 14 0), defBody (mt 14 0), defScope (mt 14 0), [], []⟩, b_RowFirst_init_N, ["self", "wide", "high"], b_RowFirst_init⟩
def d_RowFirst_ways : Df := ⟨36, 26, ⟨atOf 36 26, "ways", "RowFirst.ways", defArgs (mt 14 1), defBody (mt 14 1), defScope (mt 14 1), [], []⟩, b_RowFirst_ways_N, ["self", "place", "goal", "came"], b_RowFirst_ways⟩
def d_Loop_init : Df := ⟨38, 0, ⟨atOf 38 0, "__init__", "Loop.__init__", defArgs (mt 15 0), defBody (mt 15 0), defScope (mt 15 0), [], []⟩, b_Loop_init_N, ["self", "many"], b_Loop_init⟩
def d_Loop_ways : Df := ⟨38, 26, ⟨atOf 38 26, "ways", "Loop.ways", defArgs (mt 15 1), defBody (mt 15 1), defScope (mt 15 1), [], []⟩, b_Loop_ways_N, ["self", "place", "goal", "came"], b_Loop_ways⟩
def d_are_parents : Df := ⟨0, 40, ⟨atOf 0 40, "are_parents", "are_parents", defArgs (tp 16), defBody (tp 16), defScope (tp 16), [], []⟩, b_are_parents_N, ["parents"], b_are_parents⟩
def d_Tree_init : Df := ⟨41, 0, ⟨atOf 41 0, "__init__", "Tree.__init__", defArgs (mt 17 0), defBody (mt 17 0), defScope (mt 17 0), [], []⟩, b_Tree_init_N, ["self", "parents"], b_Tree_init⟩
def d_Tree_ways : Df := ⟨41, 26, ⟨atOf 41 26, "ways", "Tree.ways", defArgs (mt 17 1), defBody (mt 17 1), defScope (mt 17 1), [], []⟩, b_Tree_ways_N, ["self", "place", "goal", "came"], b_Tree_ways⟩
def d_distances : Df := ⟨0, 43, ⟨atOf 0 43, "distances", "distances", defArgs (tp 18), defBody (tp 18), defScope (tp 18), [], []⟩, b_distances_N, ["land", "goal"], b_distances⟩
def d_Nearer_init : Df := ⟨44, 0, ⟨atOf 44 0, "__init__", "Nearer.__init__", defArgs (mt 19 0), defBody (mt 19 0), defScope (mt 19 0), [], []⟩, b_Nearer_init_N, ["self", "land"], b_Nearer_init⟩
def d_Nearer_ways : Df := ⟨44, 26, ⟨atOf 44 26, "ways", "Nearer.ways", defArgs (mt 19 1), defBody (mt 19 1), defScope (mt 19 1), [], []⟩, b_Nearer_ways_N, ["self", "place", "goal", "came"], b_Nearer_ways⟩
def d_row_text : Df := ⟨0, 103, ⟨atOf 0 103, "row_text", "row_text", defArgs (tp 22), defBody (tp 22), defScope (tp 22), [], []⟩, b_row_text_N, ["words"], b_row_text⟩
def d_way_rows : Df := ⟨0, 104, ⟨atOf 0 104, "way_rows", "way_rows", defArgs (tp 23), defBody (tp 23), defScope (tp 23), [], []⟩, b_way_rows_N, ["table", "place", "goal"], b_way_rows⟩
def d_table_text : Df := ⟨0, 105, ⟨atOf 0 105, "table_text", "table_text", defArgs (tp 24), defBody (tp 24), defScope (tp 24), [], []⟩, b_table_text_N, ["table"], b_table_text⟩
def d_number_of : Df := ⟨0, 106, ⟨atOf 0 106, "number_of", "number_of", defArgs (tp 25), defBody (tp 25), defScope (tp 25), [], []⟩, b_number_of_N, ["word"], b_number_of⟩
def d_numbers_of : Df := ⟨0, 107, ⟨atOf 0 107, "numbers_of", "numbers_of", defArgs (tp 26), defBody (tp 26), defScope (tp 26), [], []⟩, b_numbers_of_N, ["words"], b_numbers_of⟩
def d_entry_of : Df := ⟨0, 108, ⟨atOf 0 108, "entry_of", "entry_of", defArgs (tp 27), defBody (tp 27), defScope (tp 27), [], []⟩, b_entry_of_N, ["words"], b_entry_of⟩
def d_table_of : Df := ⟨0, 109, ⟨atOf 0 109, "table_of", "table_of", defArgs (tp 28), defBody (tp 28), defScope (tp 28), [], []⟩, b_table_of_N, ["rows"], b_table_of⟩
def d_rows_of : Df := ⟨0, 110, ⟨atOf 0 110, "rows_of", "rows_of", defArgs (tp 29), defBody (tp 29), defScope (tp 29), [], []⟩, b_rows_of_N, ["text"], b_rows_of⟩
def d_read_table : Df := ⟨0, 111, ⟨atOf 0 111, "read_table", "read_table", defArgs (tp 30), defBody (tp 30), defScope (tp 30), [], []⟩, b_read_table_N, ["text"], b_read_table⟩
def d_law_cell_at : Df := ⟨0, 81, ⟨atOf 0 81, "_law_cell_at", "_law_cell_at", defArgs (tp 32), defBody (tp 32), defScope (tp 32), [], []⟩, b_law_cell_at_N, ["script", "k"], b_law_cell_at⟩
def d_law_digit : Df := ⟨0, 82, ⟨atOf 0 82, "_law_digit", "_law_digit", defArgs (tp 33), defBody (tp 33), defScope (tp 33), [], []⟩, b_law_digit_N, ["state", "base"], b_law_digit⟩
def d_law_pairs : Df := ⟨0, 83, ⟨atOf 0 83, "_law_pairs", "_law_pairs", defArgs (tp 34), defBody (tp 34), defScope (tp 34), [], []⟩, b_law_pairs_N, ["state", "places", "most"], b_law_pairs⟩
def d_law_parents : Df := ⟨0, 84, ⟨atOf 0 84, "_law_parents", "_law_parents", defArgs (tp 35), defBody (tp 35), defScope (tp 35), [], []⟩, b_law_parents_N, ["state", "most"], b_law_parents⟩
def d_law_rows : Df := ⟨0, 85, ⟨atOf 0 85, "_law_rows", "_law_rows", defArgs (tp 36), defBody (tp 36), defScope (tp 36), [], []⟩, b_law_rows_N, ["state", "places", "pairs"], b_law_rows⟩
def d_law_row_lanes : Df := ⟨0, 112, ⟨atOf 0 112, "_law_row_lanes", "_law_row_lanes", defArgs (tp 37), defBody (tp 37), defScope (tp 37), [], []⟩, b_law_row_lanes_N, ["wide", "high"], b_law_row_lanes⟩
def d_law_row_ways : Df := ⟨0, 113, ⟨atOf 0 113, "_law_row_ways", "_law_row_ways", defArgs (tp 38), defBody (tp 38), defScope (tp 38), [], []⟩, b_law_row_ways_N, ["wide", "lanes", "place", "goal"], b_law_row_ways⟩
def d_law_loop_ways : Df := ⟨0, 114, ⟨atOf 0 114, "_law_loop_ways", "_law_loop_ways", defArgs (tp 39), defBody (tp 39), defScope (tp 39), [], []⟩, b_law_loop_ways_N, ["many", "place", "came"], b_law_loop_ways⟩
def d_law_tree_ways : Df := ⟨0, 115, ⟨atOf 0 115, "_law_tree_ways", "_law_tree_ways", defArgs (tp 40), defBody (tp 40), defScope (tp 40), [], []⟩, b_law_tree_ways_N, ["parents", "place", "goal"], b_law_tree_ways⟩
def d_law_far : Df := ⟨0, 116, ⟨atOf 0 116, "_law_far", "_law_far", defArgs (tp 41), defBody (tp 41), defScope (tp 41), [], []⟩, b_law_far_N, ["places", "lanes", "goal"], b_law_far⟩
def d_law_near_ways : Df := ⟨0, 117, ⟨atOf 0 117, "_law_near_ways", "_law_near_ways", defArgs (tp 42), defBody (tp 42), defScope (tp 42), [], []⟩, b_law_near_ways_N, ["places", "lanes", "place", "goal"], b_law_near_ways⟩
def d_law_ways : Df := ⟨0, 118, ⟨atOf 0 118, "_law_ways", "_law_ways", defArgs (tp 43), defBody (tp 43), defScope (tp 43), [], []⟩, b_law_ways_N, ["kind", "place", "goal", "came"], b_law_ways⟩
def d_law_text : Df := ⟨0, 119, ⟨atOf 0 119, "_law_text", "_law_text", defArgs (tp 44), defBody (tp 44), defScope (tp 44), [], []⟩, b_law_text_N, ["kind", "places", "lanes"], b_law_text⟩
def d_law_right : Df := ⟨0, 120, ⟨atOf 0 120, "_law_right", "_law_right", defArgs (tp 45), defBody (tp 45), defScope (tp 45), [], []⟩, b_law_right_N, ["table", "kind", "places", "lanes"], b_law_right⟩
def d_law_rows_right : Df := ⟨0, 121, ⟨atOf 0 121, "_law_rows_right", "_law_rows_right", defArgs (tp 46), defBody (tp 46), defScope (tp 46), [], []⟩, b_law_rows_right_N, ["state"], b_law_rows_right⟩
def d_law_loop_right : Df := ⟨0, 122, ⟨atOf 0 122, "_law_loop_right", "_law_loop_right", defArgs (tp 47), defBody (tp 47), defScope (tp 47), [], []⟩, b_law_loop_right_N, ["state"], b_law_loop_right⟩
def d_law_tree_right : Df := ⟨0, 123, ⟨atOf 0 123, "_law_tree_right", "_law_tree_right", defArgs (tp 48), defBody (tp 48), defScope (tp 48), [], []⟩, b_law_tree_right_N, ["state"], b_law_tree_right⟩
def d_law : Df := ⟨0, 91, ⟨atOf 0 91, "law", "law", defArgs (tp 49), defBody (tp 49), defScope (tp 49), [], []⟩, b_law_N, ["script"], b_law⟩
-- d_Land_init, d_Land_start_of, d_Land_end_of, d_Land_out_of, d_Land_into, d_Table_init, d_Table_ways, d_Told_init, d_Told_is_good, d_Told_ways, d_joined, d_RowFirst_init, d_RowFirst_ways, d_Loop_init, d_Loop_ways, d_are_parents, d_Tree_init, d_Tree_ways, d_distances, d_Nearer_init, d_Nearer_ways, d_row_text, d_way_rows, d_table_text, d_number_of, d_numbers_of, d_entry_of, d_table_of, d_rows_of, d_read_table, d_law_cell_at, d_law_digit, d_law_pairs, d_law_parents, d_law_rows, d_law_row_lanes, d_law_row_ways, d_law_loop_ways, d_law_tree_ways, d_law_far, d_law_near_ways, d_law_ways, d_law_text, d_law_right, d_law_rows_right, d_law_loop_right, d_law_tree_right, d_law
end Ly
namespace Ly
open PySem L2
open PyProof.Rows hiding St
/-- old things stay as they were, new ones behind them -/
def Pre (s s' : MS) : Prop := s <+: s'
theorem Pre.refl {s : MS} : Pre s s := List.prefix_refl s
theorem Pre.trans {a b c : MS} (h : Pre a b) (g : Pre b c) : Pre a c := List.IsPrefix.trans h g
theorem Pre.add {s : MS} (t : MS) : Pre s (s ++ t) := List.prefix_append s t
theorem Pre.at_ {s s' : MS} (h : Pre s s') {n : Nat} {o : MO} (e : s[n]? = some o) : s'[n]? = some o := by
  obtain ⟨t, rfl⟩ := h
  rw [List.getElem?_append_left (List.getElem?_eq_some_iff.mp e).1]
  exact e
theorem Pre.len {s s' : MS} (h : Pre s s') : s.length ≤ s'.length := h.length_le
/-- a thing that is newer than the mark is changed -/
theorem Pre.set {s s' : MS} (h : Pre s s') {n : Nat} (hn : s.length ≤ n) (o : MO) : Pre s (s'.set n o) := by
  obtain ⟨t, rfl⟩ := h
  rw [List.set_append_right _ _ hn]
  exact List.prefix_append _ _
theorem at_end {s : MS} {o : MO} : (s ++ [o])[s.length]? = some o := by simp
theorem lt_of_at {s : MS} {n : Nat} {o : MO} (e : s[n]? = some o) : n < s.length := (List.getElem?_eq_some_iff.mp e).1
theorem atN {α : Type} {xs : List α} (i : Nat) : atI xs ((i : Nat) : Int) = xs[i]? := by
  unfold atI
  by_cases h : i < xs.length
  · have : ixN xs.length (i : Int) = some i := by
      unfold ixN
      rw [if_pos (by omega), if_pos (by omega)]
      rfl
    rw [this]
    rfl
  · have : ixN xs.length (i : Int) = none := by
      unfold ixN
      rw [if_pos (by omega), if_neg (by omega)]
    rw [this, List.getElem?_eq_none (by omega)]
    rfl
theorem at0 {α : Type} {xs : List α} : atI xs 0 = xs[0]? := atN 0
theorem at1 {α : Type} {xs : List α} : atI xs 1 = xs[1]? := atN 1
theorem at2 {α : Type} {xs : List α} : atI xs 2 = xs[2]? := atN 2
theorem forL_inv {tg : MV → MEnv → MS → (MEnv → Prop) → Prop} {b : MEnv → MS → (MEnv → MS → Prop) → Prop} {t : Still} {nx : MEnv → MS → Prop} (I : List MV → MEnv → MS → Prop) (ok : ∀ l σ s, I l σ s → t.ok s)
    (step : ∀ x r σ s, I (x :: r) σ s → ∀ k : MEnv → MS → Prop, (∀ σ2 s2, I r σ2 s2 → k σ2 s2) → tg x σ s fun σ1 => b σ1 s k) (done : ∀ σ s, I [] σ s → nx σ s) : ∀ (xs : List MV) (σ : MEnv) (s : MS), I xs σ s → forL tg b t nx xs σ s
  | [], σ, s, h => ⟨ok _ _ _ h, done σ s h⟩
  | x :: r, σ, s, h => ⟨ok _ _ _ h, step x r σ s h _ fun σ2 s2 h2 => forL_inv I ok step done r σ2 s2 h2⟩
theorem lcL_inv {tg : MV → MEnv → MS → (MEnv → Prop) → Prop} {tt : MEnv → MS → (Bool → MS → Prop) → Prop} {te : MEnv → MS → QV → Prop} {t : Still} {σ : MEnv} {D : Nat} {Q : MS → Prop} (I : List MV → MS → Prop) (ok : ∀ l s, I l s → t.ok s)
    (step : ∀ x r s, I (x :: r) s → ∀ k : MS → Prop, (∀ s2, I r s2 → k s2) → tg x σ s fun σ1 => tt σ1 s fun b s1 => if b = true then te σ1 s1 fun v s2 => (match s2[D]? with
      | some (.lst acc) => acc.length < sizeLine ∧ k (s2.set D (.lst (acc ++ [v])))
      | _ => False) else k s1) (done : ∀ s, I [] s → Q s) : ∀ (xs : List MV) (s : MS), I xs s → lcL tg tt te t σ D Q xs s
  | [], s, h => ⟨ok _ _ h, done s h⟩
  | x :: r, s, h => ⟨ok _ _ h, step x r s h _ fun s2 h2 => lcL_inv I ok step done r s2 h2⟩
def natsM (l : List Nat) : List MV := l.map fun i => MV.int (i : Nat)
def prM (p : Nat × Nat) : MV := .tup [.int (p.1 : Nat), .int (p.2 : Nat)]
theorem natsM_len {l : List Nat} : (natsM l).length = l.length := by simp [natsM]
theorem rng_nats (n : Nat) : rngIt 0 (n : Nat) = natsM (List.range n) := by
  unfold rngIt natsM
  simp
/-- a comprehension over numbers whose turns make nothing else -/
theorem lcP {tg : MV → MEnv → MS → (MEnv → Prop) → Prop} {tt : MEnv → MS → (Bool → MS → Prop) → Prop} {te : MEnv → MS → QV → Prop} {t : Still} {σ : MEnv} {Q : MS → Prop} {s : MS} {α : Type} (mk : α → MV) (f : α → Option MV) (l : List α) (hl : l.length ≤ 100000) (ht : ∀ acc, t.ok (s ++ [.lst acc]))
    (step : ∀ x ∈ l, ∀ (acc : List MV) (k : MS → Prop), acc.length < sizeLine → k (s ++ [.lst (acc ++ (f x).toList)]) → tg (mk x) σ (s ++ [.lst acc]) fun σ1 => tt σ1 (s ++ [.lst acc]) fun b s1 => if b = true then te σ1 s1 fun v s2 => (match s2[s.length]? with
      | some (.lst acc) => acc.length < sizeLine ∧ k (s2.set s.length (.lst (acc ++ [v])))
      | _ => False) else k s1) (done : Q (s ++ [.lst (l.filterMap f)])) : lcL tg tt te t σ s.length Q (l.map mk) (s ++ [.lst []]) := by
  have key : ∀ (r : List α) (acc : List MV), (∀ x ∈ r, x ∈ l) → acc.length + r.length ≤ 100000 → acc ++ r.filterMap f = l.filterMap f → lcL tg tt te t σ s.length Q (r.map mk) (s ++ [.lst acc]) := by
    intro r
    induction r with
    | nil =>
      intro acc _ _ e
      refine ⟨ht acc, ?_⟩
      have e2 : acc = l.filterMap f := by rw [← e]; simp
      rw [e2]
      exact done
    | cons x r ih =>
      intro acc hm hl2 e
      have hlen : acc.length < sizeLine := by simp [sizeLine] at hl2 ⊢; omega
      refine ⟨ht acc, step x (hm x List.mem_cons_self) acc _ hlen ?_⟩
      refine ih _ (fun y hy => hm y (List.mem_cons_of_mem _ hy)) ?_ ?_
      · have : (f x).toList.length ≤ 1 := by cases f x <;> simp
        simp at hl2 ⊢
        omega
      · rw [← e, List.filterMap_cons, List.append_assoc]
        cases f x <;> simp
  exact key l [] (fun _ h => h) (by simpa using hl) (by simp)
theorem fm_filter {l : List Nat} {q : Nat → Bool} : l.filterMap (fun i => if q i = true then some (MV.int (i : Nat)) else none) = natsM (l.filter q) := by
  unfold natsM
  induction l with
  | nil => rfl
  | cons x r ih =>
    rw [List.filterMap_cons, List.filter_cons]
    cases q x <;> simp [ih]
theorem forP {tg : MV → MEnv → MS → (MEnv → Prop) → Prop} {b : MEnv → MS → (MEnv → MS → Prop) → Prop} {t : Still} {nx : MEnv → MS → Prop} {α : Type} (mk : α → MV) (I : Nat → MEnv → MS → Prop) (l : List α) (ok : ∀ i σ s, i ≤ l.length → I i σ s → t.ok s)
    (step : ∀ i x σ s, l[i]? = some x → I i σ s → ∀ k : MEnv → MS → Prop, (∀ σ2 s2, I (i + 1) σ2 s2 → k σ2 s2) → tg (mk x) σ s fun σ1 => b σ1 s k) (done : ∀ σ s, I l.length σ s → nx σ s) {σ : MEnv} {s : MS} (h0 : I 0 σ s) : forL tg b t nx (l.map mk) σ s := by
  have key : ∀ (n i : Nat) (σ : MEnv) (s : MS), l.length - i = n → i ≤ l.length → I i σ s → forL tg b t nx ((l.drop i).map mk) σ s := by
    intro n
    induction n with
    | zero =>
      intro i σ s e hi h
      have e2 : i = l.length := by omega
      subst e2
      rw [List.drop_length]
      exact ⟨ok _ σ s (Nat.le_refl _) h, done σ s h⟩
    | succ n ih =>
      intro i σ s e hi h
      have hlt : i < l.length := by omega
      rw [List.drop_eq_getElem_cons hlt]
      exact ⟨ok _ σ s hi h, step i l[i] σ s (List.getElem?_eq_getElem hlt) h _ fun σ2 s2 h2 => ih (i + 1) σ2 s2 (by omega) hlt h2⟩
  have := key l.length 0 σ s (by omega) (Nat.zero_le _) h0
  simpa using this
theorem enm_map {α : Type} {mk : α → MV} {l : List α} : (l.map mk).zipIdx.map (fun p => MV.tup [.int (p.2 : Nat), p.1]) = l.zipIdx.map fun p => MV.tup [.int (p.2 : Nat), mk p.1] := by
  rw [List.zipIdx_map, List.map_map]
  rfl
theorem zipIdx_at {α : Type} {l : List α} {i : Nat} {x : α × Nat} (h : l.zipIdx[i]? = some x) : l[i]? = some x.1 ∧ x.2 = i := by
  rw [List.getElem?_zipIdx] at h
  cases e : l[i]? with
  | none => rw [e] at h; cases h
  | some y =>
    rw [e] at h
    have : x = (y, i) := by simpa using h.symm
    subst this
    exact ⟨rfl, rfl⟩
theorem eqW_int {i j : Int} {s : MS} {Q : Bool → Prop} : eqW (.int i) (.int j) s Q = Q (decide (i = j)) := rfl
theorem shaped_ints' (l : List Nat) : SeqAt.shaped (.list (l.map fun i => PyData.int (i : Nat))) = true := by
  have := PySem.W.shaped_ints (l.map fun i => ((i : Nat) : Int))
  rw [List.map_map] at this
  exact this
theorem natsM_nil {l : List Nat} : natsM l = [] ↔ l = [] := by simp [natsM]
/-- xs == [], by what stands -/
theorem ne_nil {s : MS} {m : Nat} {l : List Nat} {k : Nat} {Q : Bool → Prop} (h : s[m]? = some (.lst (natsM l))) (hk : s[k]? = some (.lst [])) (q : Q (decide (l = []))) : eqW (.loc m) (.loc k) s Q := by
  have dl : ∀ l : List Nat, Dats s (natsM l) (l.map fun i => PyData.int (i : Nat)) := by
    intro l
    induction l with
    | nil => exact .nil
    | cons x r ih => exact .cons (.int _) ih
  refine ⟨_, _, .lst h (dl l), .lst hk .nil, ?_, rfl, ?_⟩
  · have := shaped_ints' l
    exact this
  · have e : PyData.eqv (.list (l.map fun i => PyData.int (i : Nat))) (.list []) = decide (l = []) := by
      cases l with
      | nil => rfl
      | cons x r => rfl
    rw [e]
    exact q
theorem wpSs_cons {Γ : Prg} {st : S} {r : Ss} {σ : MEnv} {s : MS} {D : MD} : wpSs Γ (.cons st r) σ s D = wpS Γ st σ s { D with nx := fun σ1 s1 => wpSs Γ r σ1 s1 D } := by rw [wpSs]
theorem wpSs_nil {Γ : Prg} {σ : MEnv} {s : MS} {D : MD} : wpSs Γ .nil σ s D = D.nx σ s := by rw [wpSs]
theorem ixN_lt {n i : Nat} (h : i < n) : ixN n (i : Int) = some i := by
  unfold ixN
  rw [if_pos (by omega), if_pos (by omega)]
  rfl
theorem nats_set {A : List Nat} {i b : Nat} : (natsM A).set i (.int (b : Nat)) = natsM (A.set i b) := by
  unfold natsM
  rw [List.map_set]
theorem dats_pr (s : MS) : ∀ L : List (Nat × Nat), Dats s (L.map prM) (L.map fun p => PyData.tuple [.int (p.1 : Nat), .int (p.2 : Nat)])
  | [] => .nil
  | p :: r => .cons (.tup (.cons (.int _) (.cons (.int _) .nil))) (dats_pr s r)
theorem shaped_pr (L : List (Nat × Nat)) : SeqAt.shaped (.list (L.map fun p => PyData.tuple [.int (p.1 : Nat), .int (p.2 : Nat)])) = true := by
  unfold SeqAt.shaped
  rw [Bool.and_eq_true]
  constructor
  · show PyData.canLayAll0 _ = true
    induction L with
    | nil => rfl
    | cons p r ih =>
      rw [List.map_cons]
      show (PyData.canLay0 _ && PyData.canLayAll0 _) = true
      rw [ih]
      rfl
  · have : PyData.depthAll (L.map fun p => PyData.tuple [.int (p.1 : Nat), .int (p.2 : Nat)]) ≤ 3 := by
      induction L with
      | nil => simp [PyData.depthAll]
      | cons p r ih =>
        simp only [List.map_cons, PyData.depthAll, PyData.depth]
        omega
    exact decide_eq_true (by simp only [PyData.depth]; omega)
theorem ne_nilP {s : MS} {m : Nat} {l : List (Nat × Nat)} {k : Nat} {Q : Bool → Prop} (h : s[m]? = some (.lst (l.map prM))) (hk : s[k]? = some (.lst [])) (q : Q (decide (l = []))) : eqW (.loc m) (.loc k) s Q := by
  refine ⟨_, _, .lst h (dats_pr s l), .lst hk .nil, shaped_pr l, rfl, ?_⟩
  have e : PyData.eqv (.list (l.map fun p => PyData.tuple [.int (p.1 : Nat), .int (p.2 : Nat)])) (.list []) = decide (l = []) := by
    cases l with
    | nil => rfl
    | cons x r => rfl
  rw [e]
  exact q
theorem pr_last {l : List (Nat × Nat)} (h : l ≠ []) : ∃ (p : Nat × Nat) (r : List (Nat × Nat)), l = r ++ [p] ∧ (l.map prM)[(l.map prM).length - 1]? = some (prM p) ∧ (l.map prM).dropLast = r.map prM := by
  refine ⟨l.getLast h, l.dropLast, (List.dropLast_concat_getLast h).symm, ?_, ?_⟩
  · conv => lhs; rw [← List.dropLast_concat_getLast h]
    simp
  · rw [List.map_dropLast]
/-- numbers, sets: a list or a tuple of ints -/
def SeqI (s : MS) (v : MV) (ns : List Int) : Prop := v = .tup (ns.map .int) ∨ ∃ m, v = .loc m ∧ s[m]? = some (.lst (ns.map .int))
theorem SeqI.mono {s s' : MS} {v : MV} {ns : List Int} (h : SeqI s v ns) (m : Pre s s') : SeqI s' v ns := by
  rcases h with h | ⟨k, h1, h2⟩
  · exact .inl h
  · exact .inr ⟨k, h1, m.at_ h2⟩
theorem SeqI.seq {s : MS} {v : MV} {ns : List Int} (h : SeqI s v ns) : seqOf v s = some (ns.map .int) := by
  rcases h with rfl | ⟨k, rfl, h2⟩
  · rfl
  · simp [seqOf, h2]
theorem SeqI.len {s : MS} {v : MV} {ns : List Int} (h : SeqI s v ns) {Q : QV} (q : Q (.int (ns.length : Nat)) s) : bfW .len [v] s Q := by
  rcases h with rfl | ⟨k, rfl, h2⟩
  · simp [bfW, seqOf]; exact q
  · simp [bfW, seqOf, h2]; exact q
theorem SeqI.ix {s : MS} {v : MV} {ns : List Int} (h : SeqI s v ns) {i : Nat} {x : Int} (hx : ns[i]? = some x) {Q : QV} (q : Q (.int x) s) : ixW v (.int (i : Nat)) s Q := by
  have e : atI (ns.map MV.int) ((i : Nat) : Int) = some (.int x) := by rw [atN]; simp [hx]
  rcases h with rfl | ⟨k, rfl, h2⟩
  · simp [ixW, atW, e]; exact q
  · simp [ixW, h2, atW, e]; exact q
theorem nats_flat (l : List Nat) : (natsM l).all flat = true := by simp [natsM, flat]
theorem nats_in {x : Nat} {l : List Nat} : inF (.int (x : Nat)) (natsM l) = decide (x ∈ l) := by
  unfold inF natsM
  rw [Bool.eq_iff_iff, List.any_eq_true, decide_eq_true_iff]
  constructor
  · rintro ⟨y, hy, e⟩
    obtain ⟨z, hz, rfl⟩ := List.mem_map.mp hy
    have : ((z : Nat) : Int) = (x : Nat) := of_decide_eq_true e
    have : z = x := by omega
    exact this ▸ hz
  · intro h
    exact ⟨_, List.mem_map.mpr ⟨x, h, rfl⟩, decide_eq_true rfl⟩
theorem set_back {s : MS} {d : Nat} {o p : MO} {t : MS} (h : s[d]? = some o) : (s.set d p ++ t).set d o = s ++ t := by
  have hl := lt_of_at h
  rw [List.set_append_left _ _ (by simpa using hl), List.set_set]
  congr 1
  apply List.ext_getElem?
  intro i
  by_cases hi : i = d
  · subst hi
    rw [List.getElem?_set_self hl, h]
  · rw [List.getElem?_set_ne (Ne.symm hi)]
theorem eqv_nats (l k : List Nat) : PyData.eqv (.list (l.map fun i => PyData.int (i : Nat))) (.list (k.map fun i => PyData.int (i : Nat))) = decide (l = k) := by
  have key : ∀ l k : List Nat, PyData.eqvAll (l.map fun i => PyData.int (i : Nat)) (k.map fun i => PyData.int (i : Nat)) = decide (l = k) := by
    intro l
    induction l with
    | nil =>
      intro k
      cases k with
      | nil => rfl
      | cons y k => rfl
    | cons x l ih =>
      intro k
      cases k with
      | nil => rfl
      | cons y k =>
        simp only [List.map_cons, PyData.eqvAll, ih, eqv_int]
        rw [Bool.eq_iff_iff]
        simp
        omega
  have : PyData.eqv (.list (l.map fun i => PyData.int (i : Nat))) (.list (k.map fun i => PyData.int (i : Nat))) = PyData.eqvAll (l.map fun i => PyData.int (i : Nat)) (k.map fun i => PyData.int (i : Nat)) := by
    simp only [PyData.eqv]
  rw [this, key]
theorem dats_nats (s : MS) : ∀ l : List Nat, Dats s (natsM l) (l.map fun i => PyData.int (i : Nat))
  | [] => .nil
  | x :: r => .cons (.int _) (dats_nats s r)
theorem eq_nats {s : MS} {m k : Nat} {l r : List Nat} {Q : Bool → Prop} (h : s[m]? = some (.lst (natsM l))) (hk : s[k]? = some (.lst (natsM r))) (q : Q (decide (l = r))) : eqW (.loc m) (.loc k) s Q :=
  ⟨_, _, .lst h (dats_nats s l), .lst hk (dats_nats s r), shaped_ints' l, shaped_ints' r, by rw [eqv_nats]; exact q⟩
theorem nodup_le : ∀ (P : Nat) (l : List Nat), l.Nodup → (∀ x ∈ l, x < P) → l.length ≤ P
  | 0, l, _, h => by
    cases l with
    | nil => exact Nat.le_refl _
    | cons x r => exact absurd (h x (List.mem_cons_self ..)) (Nat.not_lt_zero _)
  | P + 1, l, hn, h => by
    by_cases hp : P ∈ l
    · have h1 : ∀ x ∈ l.erase P, x < P := fun x hx => by
        have := (List.Nodup.mem_erase_iff hn).mp hx
        have := h x this.2
        omega
      have := nodup_le P (l.erase P) (hn.erase P) h1
      rw [List.length_erase_of_mem hp] at this
      omega
    · have := nodup_le P l hn fun x hx => by
        have h1 := h x hx
        have h2 : x ≠ P := fun z => hp (z ▸ hx)
        omega
      omega
/-- all but two things stay -/
def Up2 (st d : Nat) (s s' : MS) : Prop := s.length ≤ s'.length ∧ ∀ i, i ≠ st → i ≠ d → i < s.length → s'[i]? = s[i]?
theorem Up2.refl {st d : Nat} {s : MS} : Up2 st d s s := ⟨Nat.le_refl _, fun _ _ _ _ => rfl⟩
theorem Up2.trans {st d : Nat} {a b c : MS} (h : Up2 st d a b) (g : Up2 st d b c) : Up2 st d a c := ⟨Nat.le_trans h.1 g.1, fun i h1 h2 h3 => by rw [g.2 i h1 h2 (Nat.lt_of_lt_of_le h3 h.1), h.2 i h1 h2 h3]⟩
theorem Up2.set {st d : Nat} {s : MS} (o : MO) : Up2 st d s (s.set d o) := ⟨by simp, fun i _ h2 _ => List.getElem?_set_ne (Ne.symm h2)⟩
theorem Up2.at_ {st d : Nat} {s s' : MS} (h : Up2 st d s s') {n : Nat} {o : MO} (h1 : n ≠ st) (h2 : n ≠ d) (e : s[n]? = some o) : s'[n]? = some o := by rw [h.2 n h1 h2 (lt_of_at e)]; exact e
theorem take_not {α : Type} {l : List α} {j : Nat} {x : α} (h : l.Nodup) (e : l[j]? = some x) : x ∉ l.take j := by
  intro z
  obtain ⟨i, hi, rfl⟩ := List.mem_take_iff_getElem.mp z
  obtain ⟨hj, e2⟩ := List.getElem?_eq_some_iff.mp e
  exact List.pairwise_iff_getElem.mp h i j (by omega) hj (by omega) e2.symm
theorem wpE_bin {Γ : Prg} {o : BOp} {a b : Ly.E} {σ : MEnv} {s : MS} {Q : QV} {R : QX} : wpE Γ (.bin o a b) σ s Q R = wpE Γ a σ s (fun x s1 => wpE Γ b σ s1 (fun y s2 => binW o x y s2 Q) R) R := by
  rw [wpE]
theorem wpE_lstn {Γ : Prg} {σ : MEnv} {s : MS} {Q : QV} {R : QX} (q : Q (.loc s.length) (s ++ [.lst [.non]])) : wpE Γ (.lst (.cons .non .nil)) σ s Q R := by
  simp only [wpE, wpEs]
  exact ⟨by decide, q⟩
theorem lk_put {κ : Type} [DecidableEq κ] {k q : κ} {v : MV} {kvs : List (κ × MV)} : lkD q (putD k v kvs) = if k = q then some v else lkD q kvs := by
  induction kvs with
  | nil =>
    show (if k = q then some v else none) = _
    rfl
  | cons e r ih =>
    obtain ⟨a, u⟩ := e
    by_cases h : a = k
    · subst h
      have : putD a v ((a, u) :: r) = (a, v) :: r := by
        show (if a = a then _ else _) = _
        rw [if_pos rfl]
      rw [this]
      show (if a = q then some v else lkD q r) = if a = q then some v else (if a = q then some u else lkD q r)
      by_cases h2 : a = q
      · rw [if_pos h2, if_pos h2]
      · rw [if_neg h2, if_neg h2, if_neg h2]
    · have : putD k v ((a, u) :: r) = (a, u) :: putD k v r := by
        show (if a = k then _ else _) = _
        rw [if_neg h]
      rw [this]
      show (if a = q then some u else lkD q (putD k v r)) = if k = q then some v else (if a = q then some u else lkD q r)
      rw [ih]
      by_cases h2 : a = q
      · have : k ≠ q := fun z => h (h2.trans z.symm)
        rw [if_pos h2, if_pos h2, if_neg this]
      · rw [if_neg h2, if_neg h2]
theorem putD_len {κ : Type} [DecidableEq κ] {k : κ} {v : MV} : ∀ {kvs : List (κ × MV)}, (putD k v kvs).length ≤ kvs.length + 1
  | [] => by simp [putD]
  | (q, u) :: r => by
    unfold putD
    by_cases h : q = k
    · rw [if_pos h]
      simp
    · rw [if_neg h]
      have := putD_len (k := k) (v := v) (kvs := r)
      simp
      omega
theorem dats_ints (s : MS) : ∀ l : List Int, Dats s (l.map .int) (l.map PyData.int)
  | [] => .nil
  | x :: r => .cons (.int _) (dats_ints s r)
theorem eqvAll_refl : ∀ l : List Int, PyData.eqvAll (l.map PyData.int) (l.map PyData.int) = true
  | [] => rfl
  | x :: r => by
    simp only [List.map_cons, PyData.eqvAll, eqvAll_refl r, eqv_int]
    simp
theorem canLay_ints : ∀ l : List Int, PyData.canLayAll0 (l.map PyData.int) = true
  | [] => rfl
  | x :: r => by
    show (PyData.canLay0 (.int x) && PyData.canLayAll0 (r.map PyData.int)) = true
    rw [canLay_ints r]
    rfl
theorem depth_ints : ∀ l : List Int, PyData.depthAll (l.map PyData.int) ≤ 1
  | [] => by simp [PyData.depthAll]
  | x :: r => by
    have := depth_ints r
    simp only [List.map_cons, PyData.depthAll, PyData.depth]
    omega
theorem wE_var {Γ : Prg} {i : Nat} {σ : MEnv} {s : MS} {Q : QV} {R : QX} : wpE Γ (.var i) σ s Q R = ((match σ[i]? with
      | some (some v) => Q v s
      | _ => False)) := by rw [wpE] <;> rfl
theorem wE_non {Γ : Prg}  {σ : MEnv} {s : MS} {Q : QV} {R : QX} : wpE Γ .non σ s Q R = (Q .non s) := by rw [wpE] <;> rfl
theorem wE_bl {Γ : Prg} {b : Bool} {σ : MEnv} {s : MS} {Q : QV} {R : QX} : wpE Γ (.bl b) σ s Q R = (Q (.bl b) s) := by rw [wpE] <;> rfl
theorem wE_int {Γ : Prg} {i : Int} {σ : MEnv} {s : MS} {Q : QV} {R : QX} : wpE Γ (.int i) σ s Q R = (Q (.int i) s) := by rw [wpE] <;> rfl
theorem wE_str {Γ : Prg} {x : Str} {σ : MEnv} {s : MS} {Q : QV} {R : QX} : wpE Γ (.str x) σ s Q R = (Q (.str x) s) := by rw [wpE] <;> rfl
theorem wE_glo {Γ : Prg} {i : Nat} {x : Str} {σ : MEnv} {s : MS} {Q : QV} {R : QX} : wpE Γ (.glo i x) σ s Q R = (Q (.str x) s) := by rw [wpE] <;> rfl
theorem wE_tup {Γ : Prg} {es : Es} {σ : MEnv} {s : MS} {Q : QV} {R : QX} : wpE Γ (.tup es) σ s Q R = (wpEs Γ es σ s (fun vs s1 => vs.length ≤ sizeLine ∧ Q (.tup vs) s1) R) := by rw [wpE] <;> rfl
theorem wE_lst {Γ : Prg} {es : Es} {σ : MEnv} {s : MS} {Q : QV} {R : QX} : wpE Γ (.lst es) σ s Q R = (wpEs Γ es σ s (fun vs s1 => vs.length ≤ sizeLine ∧ Q (.loc s1.length) (s1 ++ [.lst vs])) R) := by rw [wpE] <;> rfl
theorem wE_dnew {Γ : Prg} {tk : Bool} {σ : MEnv} {s : MS} {Q : QV} {R : QX} : wpE Γ (.dnew tk) σ s Q R = (Q (.loc s.length) (s ++ [if tk then .dtp [] else .dlf []])) := by rw [wpE] <;> rfl
theorem wE_ddisp {Γ : Prg} {kvs : Es} {σ : MEnv} {s : MS} {Q : QV} {R : QX} : wpE Γ (.ddisp kvs) σ s Q R = (wpEs Γ kvs σ (s ++ [.dlf []]) (fun vs s1 => (match dispW vs with
      | some ks => s1[s.length]? = some (.dlf []) ∧ (ks.map (·.1)).Nodup ∧ ks.length ≤ 15 ∧ Q (.loc s.length) (s1.set s.length (.dlf ks))
      | none => False)) R) := by rw [wpE] <;> rfl
theorem wE_bin {Γ : Prg} {o : BOp} {a : Ly.E} {b : Ly.E} {σ : MEnv} {s : MS} {Q : QV} {R : QX} : wpE Γ (.bin o a b) σ s Q R = (wpE Γ a σ s (fun x s1 => wpE Γ b σ s1 (fun y s2 => binW o x y s2 Q) R) R) := by rw [wpE] <;> rfl
theorem wE_neg {Γ : Prg} {a : Ly.E} {σ : MEnv} {s : MS} {Q : QV} {R : QX} : wpE Γ (.neg a) σ s Q R = (wpE Γ a σ s (fun x s1 => (match x with
      | .int i => Q (.int (-i)) s1
      | _ => False)) R) := by rw [wpE] <;> rfl
theorem wE_cmp {Γ : Prg} {o : COp} {a : Ly.E} {b : Ly.E} {σ : MEnv} {s : MS} {Q : QV} {R : QX} : wpE Γ (.cmp o a b) σ s Q R = (wpE Γ a σ s (fun x s1 => wpE Γ b σ s1 (fun y s2 => cmpW o x y s2 fun k => Q (.bl k) s2) R) R) := by rw [wpE] <;> rfl
theorem wE_chn {Γ : Prg} {o : COp} {p : COp} {a : Ly.E} {b : Ly.E} {c : Ly.E} {σ : MEnv} {s : MS} {Q : QV} {R : QX} : wpE Γ (.chn o p a b c) σ s Q R = (wpE Γ a σ s (fun x s1 => wpE Γ b σ s1 (fun y s2 => cmpW o x y s2 fun k => if k = true then wpE Γ c σ s2 (fun z s3 => cmpW p y z s3 fun k2 => Q (.bl k2) s3) R else Q (.bl false) s2) R) R) := by rw [wpE] <;> rfl
theorem wE_and {Γ : Prg} {a : Ly.E} {b : Ly.E} {σ : MEnv} {s : MS} {Q : QV} {R : QX} : wpE Γ (.and_ a b) σ s Q R = (wpE Γ a σ s (fun x s1 => (match x with
      | .bl true => wpE Γ b σ s1 Q R
      | .bl false => Q (.bl false) s1
      | _ => False)) R) := by rw [wpE] <;> rfl
theorem wE_or {Γ : Prg} {a : Ly.E} {b : Ly.E} {σ : MEnv} {s : MS} {Q : QV} {R : QX} : wpE Γ (.or_ a b) σ s Q R = (wpE Γ a σ s (fun x s1 => (match x with
      | .bl true => Q (.bl true) s1
      | .bl false => wpE Γ b σ s1 Q R
      | _ => False)) R) := by rw [wpE] <;> rfl
theorem wE_not {Γ : Prg} {a : Ly.E} {σ : MEnv} {s : MS} {Q : QV} {R : QX} : wpE Γ (.not_ a) σ s Q R = (wpE Γ a σ s (fun x s1 => (match x with
      | .bl k => Q (.bl (!k)) s1
      | _ => False)) R) := by rw [wpE] <;> rfl
theorem wE_ite {Γ : Prg} {t : Ly.E} {a : Ly.E} {b : Ly.E} {σ : MEnv} {s : MS} {Q : QV} {R : QX} : wpE Γ (.ite t a b) σ s Q R = (wpE Γ t σ s (fun x s1 => (match x with
      | .bl true => wpE Γ a σ s1 Q R
      | .bl false => wpE Γ b σ s1 Q R
      | _ => False)) R) := by rw [wpE] <;> rfl
theorem wE_fld {Γ : Prg} {a : Ly.E} {f : Nat} {σ : MEnv} {s : MS} {Q : QV} {R : QX} : wpE Γ (.fld a f) σ s Q R = (wpE Γ a σ s (fun x s1 => fldW x f s1 Q) R) := by rw [wpE] <;> rfl
theorem wE_ix {Γ : Prg} {a : Ly.E} {b : Ly.E} {σ : MEnv} {s : MS} {Q : QV} {R : QX} : wpE Γ (.ix a b) σ s Q R = (wpE Γ a σ s (fun x s1 => wpE Γ b σ s1 (fun y s2 => ixW x y s2 Q) R) R) := by rw [wpE] <;> rfl
theorem wE_sl {Γ : Prg} {a : Ly.E} {lo : Eo} {hi : Eo} {σ : MEnv} {s : MS} {Q : QV} {R : QX} : wpE Γ (.sl a lo hi) σ s Q R = (wpE Γ a σ s (fun x s1 => wpO Γ lo σ s1 (fun l s2 => wpO Γ hi σ s2 (fun h s3 => slW x l h s3 Q) R) R) R) := by rw [wpE] <;> rfl
theorem wE_call {Γ : Prg} {f : Nat} {es : Es} {σ : MEnv} {s : MS} {Q : QV} {R : QX} : wpE Γ (.call f es) σ s Q R = (callW Γ 0 f fun sp => wpEs Γ es σ s (fun vs s1 => sp vs s1 Q R) R) := by rw [wpE] <;> rfl
theorem wE_make {Γ : Prg} {c : Nat} {es : Es} {σ : MEnv} {s : MS} {Q : QV} {R : QX} : wpE Γ (.make c es) σ s Q R = ((match mres c iInit with
      | some d => callW Γ d iInit fun sp => wpEs Γ es σ s (fun vs s1 => sp (.loc s1.length :: vs) (s1 ++ [.ins c []]) (fun v s2 => v = .non ∧ Q (.loc s1.length) s2) R) R
      | none => False)) := by rw [wpE] <;> rfl
theorem wE_meth {Γ : Prg} {a : Ly.E} {m : Nat} {es : Es} {σ : MEnv} {s : MS} {Q : QV} {R : QX} : wpE Γ (.meth a m es) σ s Q R = (wpE Γ a σ s (fun x s1 => (match x with
      | .loc n => methW Γ n m s1 fun d => callW Γ d m fun sp => wpEs Γ es σ s1 (fun vs s2 => sp (.loc n :: vs) s2 Q R) R
      | _ => False)) R) := by rw [wpE] <;> rfl
theorem wE_sup {Γ : Prg} {c : Nat} {m : Nat} {es : Es} {σ : MEnv} {s : MS} {Q : QV} {R : QX} : wpE Γ (.sup c m es) σ s Q R = (callW Γ c m fun sp => wpEs Γ es σ s (fun vs s1 => sp vs s1 Q R) R) := by rw [wpE] <;> rfl
theorem wE_bf {Γ : Prg} {f : BF} {es : Es} {σ : MEnv} {s : MS} {Q : QV} {R : QX} : wpE Γ (.bf f es) σ s Q R = (wpEs Γ es σ s (fun vs s1 => bfW f vs s1 Q) R) := by rw [wpE] <;> rfl
theorem wE_bm {Γ : Prg} {m : BM} {a : Ly.E} {es : Es} {σ : MEnv} {s : MS} {Q : QV} {R : QX} : wpE Γ (.bm m a es) σ s Q R = (wpE Γ a σ s (fun x s1 => kindM x s1 = some (bmK m) ∧ wpEs Γ es σ s1 (fun vs s2 => bmW m x vs s2 Q) R) R) := by rw [wpE] <;> rfl
theorem wE_isi {Γ : Prg} {a : Ly.E} {k : IK} {σ : MEnv} {s : MS} {Q : QV} {R : QX} : wpE Γ (.isi a k) σ s Q R = (wpE Γ a σ s (fun x s1 => (match isiW k x s1 with
      | some b => Q (.bl b) s1
      | none => False)) R) := by rw [wpE] <;> rfl
theorem wE_fst {Γ : Prg} {ps : Es} {σ : MEnv} {s : MS} {Q : QV} {R : QX} : wpE Γ (.fst ps) σ s Q R = (wpF Γ ps Str.empty σ s (fun z s1 => Q (.str z) s1) R) := by rw [wpE] <;> rfl
theorem cut_from {xs : List MV} {k : Nat} (h : k ≤ xs.length) : cutM xs (some (k : Int)) none = xs.drop k := by
  unfold cutM
  have h4 : HT.sIx xs.length 0 (some ((k : Nat) : Int)) = k := by
    rw [HT.sIx_nat]
    omega
  have h5 : HT.sIx xs.length xs.length none = xs.length := rfl
  rw [h4, h5]
  exact List.take_of_length_le (by rw [List.length_drop]; exact Nat.le_refl _)
theorem bW_add {i j : Int} {s : MS} {Q : QV} : binW .add (.int i) (.int j) s Q = Q (.int (i + j)) s := rfl
theorem bW_sub {i j : Int} {s : MS} {Q : QV} : binW .sub (.int i) (.int j) s Q = Q (.int (i - j)) s := rfl
theorem eqW_str {i j : Str} {s : MS} {Q : Bool → Prop} : eqW (.str i) (.str j) s Q = Q (decide (i = j)) := rfl
theorem at3 {α : Type} {xs : List α} : atI xs 3 = xs[3]? := atN 3
theorem at4 {α : Type} {xs : List α} : atI xs 4 = xs[4]? := atN 4
theorem sz0 : ([] : List MV).length ≤ sizeLine := by decide
theorem sz1 {a : MV} : [a].length ≤ sizeLine := (by show 1 ≤ sizeLine; decide)
theorem sz2 {a b : MV} : [a, b].length ≤ sizeLine := (by show 2 ≤ sizeLine; decide)
theorem sz3 {a b c : MV} : [a, b, c].length ≤ sizeLine := (by show 3 ≤ sizeLine; decide)
theorem sz4 {a b c d : MV} : [a, b, c, d].length ≤ sizeLine := (by show 4 ≤ sizeLine; decide)
end Ly
namespace Ly
open PySem L2
open PyProof.Rows hiding St
def landFs (P : Nat) (L : List (Nat × Nat)) : List (Nat × MV) := [(18, .int (P : Nat)), (19, .tup (L.map prM))]
def LandR (s : MS) (n P : Nat) (L : List (Nat × Nat)) : Prop := s[n]? = some (.ins 17 (landFs P L))
structure LOk (P : Nat) (L : List (Nat × Nat)) : Prop where
  p1 : 1 ≤ P
  p2 : P ≤ 12
  l : L.length ≤ 40
  lt : ∀ p ∈ L, p.1 < P ∧ p.2 < P ∧ p.1 ≠ p.2
theorem LandR.mono {s s' : MS} {n P : Nat} {L : List (Nat × Nat)} (h : LandR s n P L) (m : Pre s s') : LandR s' n P L := m.at_ h
def spEnd : MSp := fun vs s Q _ => ∃ (n i P : Nat) (L : List (Nat × Nat)) (p : Nat × Nat), vs = [.loc n, .int (i : Nat)] ∧ LandR s n P L ∧ L[i]? = some p ∧ Q (.int (p.2 : Nat)) s
def spStart : MSp := fun vs s Q _ => ∃ (n i P : Nat) (L : List (Nat × Nat)) (p : Nat × Nat), vs = [.loc n, .int (i : Nat)] ∧ LandR s n P L ∧ L[i]? = some p ∧ Q (.int (p.1 : Nat)) s
theorem law_end {Γ : Prg} : Law Γ d_Land_end_of spEnd := by
  rintro _ s Q R ⟨n, i, P, L, p, rfl, h1, h2, q⟩
  refine ⟨rfl, ?_⟩
  unfold LandR at h1
  simp [d_Land_end_of, b_Land_end_of, b_Land_end_of_N, stM, wpSs, wpS, wpE, fldW, h1, landFs, lkM, ixW, atW, atN, at1, h2, prM]
  exact q
theorem law_start {Γ : Prg} : Law Γ d_Land_start_of spStart := by
  rintro _ s Q R ⟨n, i, P, L, p, rfl, h1, h2, q⟩
  refine ⟨rfl, ?_⟩
  unfold LandR at h1
  simp [d_Land_start_of, b_Land_start_of, b_Land_start_of_N, stM, wpSs, wpS, wpE, fldW, h1, landFs, lkM, ixW, atW, atN, at0, h2, prM]
  exact q
/-- a list that is new -/
def NewL (s s' : MS) (m : Nat) (xs : List MV) : Prop := Pre s s' ∧ s.length ≤ m ∧ s'[m]? = some (.lst xs)
def outL (L : List (Nat × Nat)) (p : Nat) : List Nat := (List.range L.length).filter fun i => decide ((L[i]?.map (·.1)) = some p)
def intoL (L : List (Nat × Nat)) (p : Nat) : List Nat := (List.range L.length).filter fun i => decide ((L[i]?.map (·.2)) = some p)
def spOut : MSp := fun vs s Q _ => ∃ (n p P : Nat) (L : List (Nat × Nat)), vs = [.loc n, .int (p : Nat)] ∧ LandR s n P L ∧ L.length ≤ 40 ∧ ∀ s' m, NewL s s' m (natsM (outL L p)) → Q (.loc m) s'
theorem law_out {Γ : Prg} : Law Γ d_Land_out_of spOut := by
  rintro _ s Q R ⟨n, p, P, L, rfl, h1, hL, q⟩
  refine ⟨rfl, ?_⟩
  have h1' := h1
  unfold LandR at h1'
  simp [d_Land_out_of, b_Land_out_of, b_Land_out_of_N, stM, wpSs, wpS, wpE, wpEs, wpI, fldW, h1', landFs, lkM, bfW, seqOf, wipeM, Still.out]
  refine ⟨by omega, ?_⟩
  rw [rng_nats]
  refine lcP (fun i : Nat => MV.int (i : Nat)) (fun i => if decide ((L[i]?.map (·.1)) = some p) = true then some (MV.int (i : Nat)) else none) (List.range L.length) (by simp; omega) (fun _ => trivial) ?_ ?_
  · intro i hi acc k ha hk
    have hi : i < L.length := by simpa using hi
    have hp : L[i]? = some L[i] := List.getElem?_eq_getElem hi
    simp [tgW, wpT, wpE, fldW, List.getElem?_append_left (lt_of_at h1), h1', landFs, lkM, ixW, atW, atN, at0, hp, prM, cmpW, eqW, ha] at hk ⊢
    by_cases hq : L[i].1 = p
    · simpa [hq] using hk
    · have hq' : ¬ ((L[i].1 : Nat) : Int) = (p : Nat) := by omega
      simpa [hq, hq'] using hk
  · refine q _ _ ⟨Pre.add _, Nat.le_refl _, ?_⟩
    rw [at_end, fm_filter]
    rfl
def spInto : MSp := fun vs s Q _ => ∃ (n p P : Nat) (L : List (Nat × Nat)), vs = [.loc n, .int (p : Nat)] ∧ LandR s n P L ∧ L.length ≤ 40 ∧ ∀ s' m, NewL s s' m (natsM (intoL L p)) → Q (.loc m) s'
theorem law_into {Γ : Prg} : Law Γ d_Land_into spInto := by
  rintro _ s Q R ⟨n, p, P, L, rfl, h1, hL, q⟩
  refine ⟨rfl, ?_⟩
  have h1' := h1
  unfold LandR at h1'
  simp [d_Land_into, b_Land_into, b_Land_into_N, stM, wpSs, wpS, wpE, wpEs, wpI, fldW, h1', landFs, lkM, bfW, seqOf, wipeM, Still.out]
  refine ⟨by omega, ?_⟩
  rw [rng_nats]
  refine lcP (fun i : Nat => MV.int (i : Nat)) (fun i => if decide ((L[i]?.map (·.2)) = some p) = true then some (MV.int (i : Nat)) else none) (List.range L.length) (by simp; omega) (fun _ => trivial) ?_ ?_
  · intro i hi acc k ha hk
    have hi : i < L.length := by simpa using hi
    have hp : L[i]? = some L[i] := List.getElem?_eq_getElem hi
    simp [tgW, wpT, wpE, fldW, List.getElem?_append_left (lt_of_at h1), h1', landFs, lkM, ixW, atW, atN, at1, hp, prM, cmpW, eqW, ha] at hk ⊢
    by_cases hq : L[i].2 = p
    · simpa [hq] using hk
    · have hq' : ¬ ((L[i].2 : Nat) : Int) = (p : Nat) := by omega
      simpa [hq, hq'] using hk
  · refine q _ _ ⟨Pre.add _, Nat.le_refl _, ?_⟩
    rw [at_end, fm_filter]
    rfl
/-- Land(places, lanes) -/
def spLand : MSp := fun vs s Q _ => ∃ (n m P : Nat) (L : List (Nat × Nat)), vs = [.loc n, .int (P : Nat), .loc m] ∧ n ≠ m ∧ s[n]? = some (.ins 17 []) ∧ s[m]? = some (.lst (L.map prM)) ∧ LOk P L ∧ Q .non (s.set n (.ins 17 (landFs P L)))
theorem law_land {Γ : Prg} : Law Γ d_Land_init spLand := by
  rintro _ s Q R ⟨n, m, P, L, rfl, hnm, h1, h2, lk, q⟩
  refine ⟨rfl, ?_⟩
  have := lk.p1
  have := lk.p2
  have := lk.l
  have hP1 : ¬ ((P : Nat) : Int) < 1 := by omega
  have hP2 : ¬ (12 : Int) < (P : Nat) := by omega
  have hL : ¬ (40 : Int) < ((L.length : Nat) : Int) := by omega
  simp [d_Land_init, b_Land_init, b_Land_init_N, stM, wpSs, wpS, wpE, wpEs, wpI, h2, bfW, seqOf, cmpW, hP1, hP2, hL, enmIt, Still.out]
  rw [enm_map]
  refine forP (t := .obj m (L.map prM)) (fun p : (Nat × Nat) × Nat => MV.tup [.int (p.2 : Nat), prM p.1]) (fun _ σ s' => ∃ a b c d, σ = [some (.loc n), some (.int (P : Nat)), some (.loc m), a, b, c, d] ∧ s' = s) L.zipIdx (fun i σ s' _ h => by obtain ⟨_, _, _, _, _, rfl⟩ := h; exact h2) ?_ ?_ ⟨_, _, _, _, rfl, rfl⟩
  · rintro i ⟨x, j⟩ σ s' hx ⟨a, b, c, d, rfl, rfl⟩ k hk
    obtain ⟨hx, _⟩ := zipIdx_at hx
    obtain ⟨l1, l2, l3⟩ := lk.lt x (List.mem_of_getElem? hx)
    have g1 : ¬ ((x.1 : Nat) : Int) = (x.2 : Nat) := by omega
    have g2 : ¬ ((x.1 : Nat) : Int) < 0 := by omega
    have g3 : ¬ ((x.2 : Nat) : Int) < 0 := by omega
    have g4 : ¬ ((P : Nat) : Int) ≤ (x.1 : Nat) := by omega
    have g5 : ¬ ((P : Nat) : Int) ≤ (x.2 : Nat) := by omega
    simp [tgW, tgsW, prM, eqW, g1, g2, g3, g4, g5]
    exact hk _ _ ⟨_, _, _, _, rfl, rfl⟩
  · rintro σ s' ⟨a, b, c, d, rfl, rfl⟩
    have hl := lt_of_at h1
    simp [setfW, h1, putM, List.getElem?_set_self hl, h2, List.getElem?_set_ne hnm, List.set_set]
    exact q
/-- what a table's ways are, by place, goal, the lane one came by -/
abbrev WF := Nat → Nat → Option Nat → List Nat
def cameM : Option Nat → MV
  | none => .non
  | some i => .int (i : Nat)
/-- a table that tells by a dict: Told, Less -/
def keyM (p g : Nat) (c : Option Nat) : NestedKey := .tup [.num (p : Nat), .num (g : Nat), (match c with
  | none => .none
  | some i => .num (i : Nat))]
theorem key_of_came (p g : Nat) (c : Option Nat) : tkeyOf (.tup [.int (p : Nat), .int (g : Nat), cameM c]) = some (keyM p g c) := by
  cases c <;> rfl
theorem key_depth (p g : Nat) (c : Option Nat) : (keyM p g c).depth ≤ 8 := by
  cases c <;> exact Nat.le_of_ble_eq_true rfl
/-- all that is new, and all but lists -/
def Keep (lo : Nat) (s s' : MS) : Prop := ∀ (i : Nat) (o : MO), s[i]? = some o → (lo ≤ i ∨ ∀ xs, o ≠ .lst xs) → s'[i]? = some o
theorem LandR.keep {lo : Nat} {s s' : MS} {n P : Nat} {L : List (Nat × Nat)} (h : LandR s n P L) (K : Keep lo s s') : LandR s' n P L := K _ _ h (.inr fun _ z => nomatch z)
structure HasLand (Γ : Prg) : Prop where
  e : Γ 17 21 = some spEnd
  s : Γ 17 20 = some spStart
  o : Γ 17 22 = some spOut
  i : Γ 17 23 = some spInto
theorem end_call {Γ : Prg} (hl : HasLand Γ) {s : MS} {ln i P : Nat} {L : List (Nat × Nat)} {p : Nat × Nat} (h : LandR s ln P L) (hp : L[i]? = some p) {Q : QV} {R : QX} (q : Q (.int (p.2 : Nat)) s) :
    methW Γ ln 21 s fun d => callW Γ d 21 fun sp => sp [.loc ln, .int (i : Nat)] s Q R := by
  have h' := h
  unfold LandR at h'
  simp only [methW, h', mr_Land_end_of, callW, hl.e]
  exact ⟨ln, i, P, L, p, rfl, h, hp, q⟩
theorem into_mem {L : List (Nat × Nat)} {p x : Nat} (h : x ∈ intoL L p) : x < L.length := by
  unfold intoL at h
  exact List.mem_range.mp (List.mem_filter.mp h).1
theorem out_mem {L : List (Nat × Nat)} {p x : Nat} (h : x ∈ outL L p) : x < L.length := by
  unfold outL at h
  exact List.mem_range.mp (List.mem_filter.mp h).1
theorem start_call {Γ : Prg} (hl : HasLand Γ) {s : MS} {ln i P : Nat} {L : List (Nat × Nat)} {p : Nat × Nat} (h : LandR s ln P L) (hp : L[i]? = some p) {Q : QV} {R : QX} (q : Q (.int (p.1 : Nat)) s) :
    methW Γ ln 20 s fun d => callW Γ d 20 fun sp => sp [.loc ln, .int (i : Nat)] s Q R := by
  have h' := h
  unfold LandR at h'
  simp only [methW, h', mr_Land_start_of, callW, hl.s]
  exact ⟨ln, i, P, L, p, rfl, h, hp, q⟩
theorem into_call {Γ : Prg} (hl : HasLand Γ) {s : MS} {ln p P : Nat} {L : List (Nat × Nat)} (h : LandR s ln P L) (hL : L.length ≤ 40) {Q : QV} {R : QX} (q : ∀ s' m, NewL s s' m (natsM (intoL L p)) → Q (.loc m) s') :
    methW Γ ln 23 s fun d => callW Γ d 23 fun sp => sp [.loc ln, .int (p : Nat)] s Q R := by
  have h' := h
  unfold LandR at h'
  simp only [methW, h', mr_Land_into, callW, hl.i]
  exact ⟨ln, p, P, L, rfl, h, hL, q⟩
theorem out_call {Γ : Prg} (hl : HasLand Γ) {s : MS} {ln p P : Nat} {L : List (Nat × Nat)} (h : LandR s ln P L) (hL : L.length ≤ 40) {Q : QV} {R : QX} (q : ∀ s' m, NewL s s' m (natsM (outL L p)) → Q (.loc m) s') :
    methW Γ ln 22 s fun d => callW Γ d 22 fun sp => sp [.loc ln, .int (p : Nat)] s Q R := by
  have h' := h
  unfold LandR at h'
  simp only [methW, h', mr_Land_out_of, callW, hl.o]
  exact ⟨ln, p, P, L, rfl, h, hL, q⟩
def spTabI : MSp := fun vs s Q _ => ∃ (n c : Nat) (v : MV), vs = [.loc n, v] ∧ s[n]? = some (.ins c []) ∧ Q .non (s.set n (.ins c [(25, v)]))
theorem law_tabi {Γ : Prg} : Law Γ d_Table_init spTabI := by
  rintro _ s Q R ⟨n, c, v, rfl, h, q⟩
  refine ⟨rfl, ?_⟩
  simp [d_Table_init, b_Table_init, b_Table_init_N, stM, wpSs, wpS, wpE, setfW, h, putM]
  exact q
/-- a land is made -/
theorem land_make {Γ : Prg} (h17 : Γ 17 0 = some spLand) {s : MS} {P m : Nat} {L : List (Nat × Nat)} {Q : QV} {R : QX} (h : s[m]? = some (.lst (L.map prM))) (lk : LOk P L) (q : Q (.loc s.length) (s ++ [.ins 17 (landFs P L)])) :
    callW Γ 17 0 fun sp => sp [.loc s.length, .int (P : Nat), .loc m] (s ++ [.ins 17 []]) (fun v s2 => v = .non ∧ Q (.loc s.length) s2) R := by
  simp only [callW, h17, dflt_nil]
  have hm := lt_of_at h
  refine ⟨s.length, m, P, L, rfl, by omega, at_end, (Pre.add _).at_ h, lk, rfl, ?_⟩
  rw [List.set_append_right _ _ (Nat.le_refl _)]
  simpa using q
/-- a thing of a class is new at n -/
structure NewI (s0 s : MS) (n c : Nat) : Prop where
  p : Pre s0 s
  le : s0.length ≤ n
  a : s[n]? = some (.ins c [])
def comes (L : List (Nat × Nat)) (p : Nat) : List (Option Nat) := none :: (intoL L p).map some
theorem into_nodup (L : List (Nat × Nat)) (p : Nat) : (comes L p).Nodup := by
  unfold comes
  rw [List.nodup_cons]
  refine ⟨by simp, ?_⟩
  unfold intoL
  unfold List.Nodup
  rw [List.pairwise_map]
  exact List.Pairwise.imp (fun h e => h (Option.some.inj e)) (List.Pairwise.filter _ List.nodup_range)
theorem comes_len {L : List (Nat × Nat)} {p : Nat} : (comes L p).length ≤ L.length + 1 := by
  unfold comes intoL
  have := List.length_filter_le (fun i => decide ((L[i]?.map (·.2)) = some p)) (List.range L.length)
  simp at this ⊢
  omega
theorem comes_mem {L : List (Nat × Nat)} {p i : Nat} (h : some i ∈ comes L p) : i ∈ intoL L p := by
  unfold comes at h
  rcases List.mem_cons.mp h with z | z
  · cases z
  · obtain ⟨x, hx, e⟩ := List.mem_map.mp z
    cases e
    exact hx
theorem out_len {L : List (Nat × Nat)} {p : Nat} : (outL L p).length ≤ L.length := by
  unfold outL
  have := List.length_filter_le (fun i => decide ((L[i]?.map (·.1)) = some p)) (List.range L.length)
  simpa using this
end Ly
namespace Ly
open PySem L2
open PyProof.Rows hiding St
/-- all but the state stay -/
def Upd (st : Nat) (s s' : MS) : Prop := s.length ≤ s'.length ∧ ∀ i, i ≠ st → i < s.length → s'[i]? = s[i]?
theorem Upd.refl {st : Nat} {s : MS} : Upd st s s := ⟨Nat.le_refl _, fun _ _ _ => rfl⟩
theorem Upd.trans {st : Nat} {a b c : MS} (h : Upd st a b) (g : Upd st b c) : Upd st a c := ⟨Nat.le_trans h.1 g.1, fun i h1 h2 => by rw [g.2 i h1 (Nat.lt_of_lt_of_le h2 h.1), h.2 i h1 h2]⟩
theorem Upd.add {st : Nat} {s : MS} (t : MS) : Upd st s (s ++ t) := ⟨by simp, fun i _ h => List.getElem?_append_left h⟩
theorem Upd.set {st : Nat} {s : MS} (o : MO) : Upd st s (s.set st o) := ⟨by simp, fun i h _ => List.getElem?_set_ne (Ne.symm h)⟩
theorem Upd.of_pre {st : Nat} {s s' : MS} (h : Pre s s') : Upd st s s' := by
  obtain ⟨t, rfl⟩ := h
  exact Upd.add t
theorem Upd.at_ {st : Nat} {s s' : MS} (h : Upd st s s') {n : Nat} {o : MO} (hn : n ≠ st) (e : s[n]? = some o) : s'[n]? = some o := by rw [h.2 n hn (lt_of_at e)]; exact e
def StV (s : MS) (st : Nat) : Prop := (∃ a : Int, s[st]? = some (.lst [.int a])) ∨ ∃ a b c : Int, s[st]? = some (.lst [.int a, .int b, .int c])
theorem StV.pre {s s' : MS} {st : Nat} (h : StV s st) (m : Pre s s') : StV s' st := by
  rcases h with ⟨a, h⟩ | ⟨a, b, c, h⟩
  · exact .inl ⟨a, m.at_ h⟩
  · exact .inr ⟨a, b, c, m.at_ h⟩
def spDigit : MSp := fun vs s Q _ => ∃ (st base : Nat), vs = [.loc st, .int (base : Nat)] ∧ 0 < base ∧ base < 1073741824 ∧ StV s st ∧ ∀ s' (r : Nat), Upd st s s' → StV s' st → r < base → Q (.int (r : Nat)) s'
theorem fmod_nat {x : Int} {b : Nat} (hb : 0 < b) : ∃ r : Nat, r < b ∧ x.fmod (b : Int) = (r : Nat) := by
  have h1 := Int.fmod_nonneg_of_pos x (show (0 : Int) < (b : Nat) by omega)
  have h2 := Int.fmod_lt_of_pos x (show (0 : Int) < (b : Nat) by omega)
  exact ⟨(x.fmod b).toNat, by omega, by omega⟩
theorem law_digit {Γ : Prg} : Law Γ d_law_digit spDigit := by
  rintro _ s Q R ⟨st, base, rfl, hb, hb2, hst, q⟩
  refine ⟨rfl, ?_⟩
  show wpSs Γ b_law_digit (stM b_law_digit_N [.loc st, .int (base : Nat)]) s _
  unfold b_law_digit
  rw [wpSs_cons]
  have tail : ∀ (s1 : MS) (c1 : Option MV) (a b c : Int), Upd st s s1 → s1[st]? = some (.lst [.int a, .int b, .int c]) → wpSs Γ (match b_law_digit with
      | .cons _ r => r
      | _ => .nil) [some (.loc st), some (.int (base : Nat)), c1, none, none] s1 { nx := fun _ s' => Q .non s', rt := Q, ex := fun y _ s' => R y s' } := by
    intro s1 c1 a b c m1 e1
    show wpSs Γ (.cons _ _) _ _ _
    rw [wpSs_cons]
    simp only [wpS]
    simp [wpE, wpEs, ixW, e1, atW, at0, cmpW]
    by_cases ha : 0 < a
    · simp [ha]
      rw [wpSs_cons]
      simp [wpS, wpE, wpEs, ixW, e1, atW, at0, bfW, binW, tgW]
      refine ⟨by omega, ?_⟩
      rw [wpSs_cons]
      obtain ⟨r, hr, er⟩ := fmod_nat (x := a) hb
      simp [wpS, wpE, ixW, e1, atW, at0, binW, setW, ixN]
      refine ⟨⟨by omega, by omega⟩, ?_⟩
      rw [wpSs_cons]
      simp [wpS, wpE, er]
      exact q _ r (m1.trans (Upd.set _)) (.inr ⟨_, _, _, List.getElem?_set_self (lt_of_at e1)⟩) hr
    · simp [ha, wpSs_nil]
      rw [wpSs_cons]
      simp [wpS, wpE, ixW, e1, atW, at2, binW, setW, ixN]
      generalize hs2 : s1.set st (MO.lst [.int a, .int b, .int (c + 1)]) = s2
      have m2 : Upd st s s2 := by rw [← hs2]; exact m1.trans (Upd.set _)
      have e2 : s2[st]? = some (.lst [.int a, .int b, .int (c + 1)]) := by rw [← hs2, List.getElem?_set_self (lt_of_at e1)]
      clear hs2
      rw [wpSs_cons]
      simp [wpS, wpE, wpEs, ixW, e2, atW, at1, at2, binW, bfW, tgW, CMul]
      obtain ⟨r1, h1, g1⟩ := fmod_nat (x := (b + 7919 * (c + 1) + 1) * 48271) (b := 2147483647) (by decide)
      rw [show ((2147483647 : Nat) : Int) = 2147483647 from rfl] at g1
      rw [g1]
      rw [wpSs_cons]
      simp [wpS, wpE, wpEs, binW, bfW, tgW, CDivN]
      refine ⟨.inl ⟨by omega, by omega⟩, ?_⟩
      generalize (r1 : Int) * ((r1 : Int).fdiv 1009 + 69621) = z1
      obtain ⟨r2, h2, g2⟩ := fmod_nat (x := z1) (b := 2147483647) (by decide)
      rw [show ((2147483647 : Nat) : Int) = 2147483647 from rfl] at g2
      rw [g2]
      rw [wpSs_cons]
      simp [wpS, wpE, wpEs, binW, bfW, tgW, CDivN]
      refine ⟨.inl ⟨by omega, by omega⟩, by omega, ?_⟩
      generalize ((r2 : Int) * ((r2 : Int).fdiv 2003 + 40692)).fmod 2147483399 = z2
      obtain ⟨r3, h3, g3⟩ := fmod_nat (x := z2) hb
      rw [g3]
      exact q s2 r3 m2 (.inr ⟨_, _, _, e2⟩) h3
  simp only [wpS]
  rcases hst with ⟨a, e1⟩ | ⟨a, b, c, e1⟩
  · simp [b_law_digit_N, stM, wpE, wpEs, bfW, seqOf, e1, cmpW, eqW_int]
    rw [wpSs_cons]
    simp [wpS, wpE, ixW, e1, atW, at0, tgW]
    rw [wpSs_cons]
    have hd1 : ∀ o : MO, (s ++ [o])[st]? = some (.lst [.int a]) := fun o => (Pre.add _).at_ e1
    have hl := lt_of_at e1
    have key : ∀ (s1 : MS) (a2 : Int), Upd st s s1 → s1[st]? = some (.lst [.int a2]) → wpSs Γ (.cons (.ex (.bm .extend (.var 0) (.cons (.lst (.cons (.bin .mod (.bf .int (.cons (.var 2) .nil)) (.int 2147483647)) (.cons (.int 0) .nil))) .nil))) .nil) [some (.loc st), some (.int (base : Nat)), some (.int a), none, none] s1
        { nx := fun σ1 s1 => wpSs Γ (match b_law_digit with
          | .cons _ r => r
          | _ => .nil) σ1 s1 { nx := fun _ s' => Q .non s', rt := Q, ex := fun y _ s' => R y s' }, rt := Q, ex := fun y _ s' => R y s' } := by
      intro s1 a2 m1 f1
      rw [wpSs_cons]
      have f2 : ∀ o : MO, (s1 ++ [o])[st]? = some (.lst [.int a2]) := fun o => (Pre.add _).at_ f1
      have f3 : ∀ o : MO, (s1 ++ [o])[s1.length]? = some o := fun o => at_end
      simp [wpS, wpE, wpEs, kindM, f1, bmK, bfW, binW, bmW, f2, f3, wpSs_nil]
      refine ⟨by decide, by decide, ?_⟩
      refine tail _ _ a2 (a.fmod 2147483647) 0 (m1.trans ((Upd.add _).trans (Upd.set _))) ?_
      rw [List.getElem?_set_self (by have := lt_of_at f1; simp; omega)]
    simp only [wpS]
    simp [wpE, wpEs, binW, CPow, bfW, cmpW]
    refine ⟨by decide, ?_⟩
    have fin : ∀ a2 : Int, wpSs Γ _ _ ((s ++ [MO.lst [.int 0, .int a]]).set st (.lst [.int a2])) _ := fun a2 => key _ a2 ((Upd.add _).trans (Upd.set _)) (by rw [List.getElem?_set_self (by simp; omega)])
    by_cases hbig : (1000000000000000000 : Int) ≤ a
    · simp [hbig, ixW, atW, at1, setW, hd1, ixN]
      exact fin a
    · simp [hbig, ixW, atW, at0, setW, hd1, ixN]
      exact fin 0
  · simp [b_law_digit_N, stM, wpE, wpEs, bfW, seqOf, e1, cmpW, eqW_int]
    rw [wpSs_nil]
    exact tail s none a b c Upd.refl e1
theorem Upd.set_new {st : Nat} {s s' : MS} (h : Upd st s s') {n : Nat} (hn : s.length ≤ n) (o : MO) : Upd st s (s'.set n o) :=
  ⟨by simpa using h.1, fun i h1 h2 => by rw [List.getElem?_set_ne (by omega)]; exact h.2 i h1 h2⟩
theorem StV.set_ne {s : MS} {st n : Nat} (h : StV s st) (hn : n ≠ st) (o : MO) : StV (s.set n o) st := by
  rcases h with ⟨a, h⟩ | ⟨a, b, c, h⟩
  · exact .inl ⟨a, by rw [List.getElem?_set_ne hn]; exact h⟩
  · exact .inr ⟨a, b, c, by rw [List.getElem?_set_ne hn]; exact h⟩
theorem StV.lt {s : MS} {st : Nat} (h : StV s st) : st < s.length := by
  rcases h with ⟨a, h⟩ | ⟨a, b, c, h⟩ <;> exact lt_of_at h
/-- a digit is drawn -/
theorem digit_call {Γ : Prg} (h82 : Γ 0 82 = some spDigit) {s : MS} {st base : Nat} (hb : 0 < base) (hb2 : base < 1073741824) (hst : StV s st) {Q : QV} {R : QX} (q : ∀ s' (r : Nat), Upd st s s' → StV s' st → r < base → Q (.int (r : Nat)) s') :
    callW Γ 0 82 fun sp => sp [.loc st, .int (base : Nat)] s Q R := by
  simp only [callW, h82, dflt_nil]
  exact ⟨st, base, rfl, hb, hb2, hst, q⟩
/-- who lies above whom -/
def AbOk (ab : List Nat) : Prop := ab.length ≤ 11 ∧ ∀ (i x : Nat), ab[i]? = some x → x ≤ i
def spParents : MSp := fun vs s Q _ => ∃ (st most : Nat), vs = [.loc st, .int (most : Nat)] ∧ most ≤ 11 ∧ StV s st ∧ ∀ s' m ab, Upd st s s' → StV s' st → s.length ≤ m → s'[m]? = some (.lst (natsM ab)) → AbOk ab → Q (.loc m) s'
theorem law_parents {Γ : Prg} (h82 : Γ 0 82 = some spDigit) : Law Γ d_law_parents spParents := by
  rintro _ s Q R ⟨st, most, rfl, hm, hst, q⟩
  refine ⟨rfl, ?_⟩
  show wpSs Γ b_law_parents (stM b_law_parents_N [.loc st, .int (most : Nat)]) s _
  unfold b_law_parents
  rw [wpSs_cons]
  simp only [b_law_parents_N, stM, wpS]
  unfold wpE
  simp only [wpE, wpEs, wpI, List.length_cons, List.length_nil, List.map_cons, List.map_nil, List.cons_append, List.nil_append, List.replicate, Nat.sub_self, List.getElem?_cons_zero, List.getElem?_cons_succ, binW]
  refine digit_call (base := most + 1) h82 (by omega) (by omega) hst fun s1 r u1 v1 hr => ?_
  simp only []
  refine ⟨by omega, ?_⟩
  rw [rng_nats]
  refine lcL_inv (t := .free) (fun l s' => ∃ (k : Nat) (ab : List Nat), k ≤ r ∧ l = natsM (List.range' k (r - k)) ∧ Upd st s s' ∧ StV s' st ∧ s.length ≤ s1.length ∧ s'[s1.length]? = some (.lst (natsM ab)) ∧ ab.length = k ∧ ∀ (i x : Nat), ab[i]? = some x → x ≤ i) (fun _ _ _ => trivial) ?_ ?_ _ _
      ⟨0, [], Nat.zero_le _, by rw [List.range_eq_range']; rfl, u1.trans (Upd.add _), v1.pre (Pre.add _), u1.1, at_end, rfl, fun i x e => nomatch e⟩
  · rintro x rr s3 ⟨k, ab, hk, hx, u3, v3, l0, x3, hab, hb⟩ K hK
    have hkl : k < r := by
      rcases Nat.lt_or_ge k r with z | z
      · exact z
      · rw [show r - k = 0 by omega] at hx
        cases hx
    have e1 : r - k = (r - (k + 1)) + 1 := by omega
    rw [e1, List.range'_succ] at hx
    have hx' : x :: rr = MV.int (k : Nat) :: natsM (List.range' (k + 1) (r - (k + 1))) := hx
    cases hx'
    simp only [wipeM, tgW, wpT, List.set_cons_zero, List.set_cons_succ, List.getElem?_cons_zero, List.getElem?_cons_succ, if_true, binW]
    refine digit_call (base := k + 1) h82 (by omega) (by omega) v3 fun s4 y u4 v4 hy => ?_
    have hne : s1.length ≠ st := by have := hst.lt; omega
    have y1 := u4.at_ hne x3
    simp only [y1]
    have e2 : natsM ab ++ [.int ((y : Nat) : Int)] = natsM (ab ++ [y]) := by simp [natsM]
    rw [e2]
    refine ⟨by rw [natsM_len]; simp [sizeLine]; omega, hK _ ⟨k + 1, ab ++ [y], hkl, rfl, ?_, ?_, l0, List.getElem?_set_self (lt_of_at y1), by simp [hab], ?_⟩⟩
    · have u5 := u3.trans u4
      refine ⟨by simpa using u5.1, fun i h1 h2 => ?_⟩
      rw [List.getElem?_set_ne (by omega)]
      exact u5.2 i h1 h2
    · rcases v4 with ⟨a, h⟩ | ⟨a, b, c, h⟩
      · exact .inl ⟨a, by rw [List.getElem?_set_ne hne]; exact h⟩
      · exact .inr ⟨a, b, c, by rw [List.getElem?_set_ne hne]; exact h⟩
    · intro i z hz
      rcases Nat.lt_or_ge i ab.length with w | w
      · rw [List.getElem?_append_left w] at hz
        exact hb i z hz
      · rw [List.getElem?_append_right w] at hz
        have hi' : i - ab.length = 0 := by
          rcases Nat.eq_zero_or_pos (i - ab.length) with w2 | w2
          · exact w2
          · rw [List.getElem?_eq_none (by simp; omega)] at hz
            cases hz
        rw [hi'] at hz
        cases hz
        omega
  · rintro s3 ⟨k, ab, hk, hx, u3, v3, l0, x3, hab, hb⟩
    have hkl : k = r := by
      rcases Nat.lt_or_ge k r with z | z
      · rw [show r - k = (r - k - 1) + 1 by omega, List.range'_succ] at hx
        cases hx
      · omega
    simp only [Still.out]
    exact q s3 s1.length ab u3 v3 l0 x3 ⟨by omega, hb⟩
def spPairs : MSp := fun vs s Q _ => ∃ (st P most : Nat), vs = [.loc st, .int (P : Nat), .int (most : Nat)] ∧ 1 ≤ P ∧ P ≤ 12 ∧ most ≤ 40 ∧ StV s st ∧ ∀ s' m L, Upd st s s' → StV s' st → s.length ≤ m → s'[m]? = some (.lst (L.map prM)) → L.length ≤ most → LOk P L → Q (.loc m) s'
theorem law_pairs {Γ : Prg} (h82 : Γ 0 82 = some spDigit) : Law Γ d_law_pairs spPairs := by
  rintro _ s Q R ⟨st, P, most, rfl, hP1, hP2, hm, hst, q⟩
  refine ⟨rfl, ?_⟩
  show wpSs Γ b_law_pairs (stM b_law_pairs_N [.loc st, .int (P : Nat), .int (most : Nat)]) s _
  unfold b_law_pairs
  rw [wpSs_cons]
  have hne : s.length ≠ st := by have := hst.lt; omega
  simp [b_law_pairs_N, stM, wpS, wpE, wpEs, tgW]
  have u1 : Upd st s (s ++ [MO.lst []]) := Upd.add _
  have v1 : StV (s ++ [MO.lst []]) st := hst.pre (Pre.add _)
  have x1 : (s ++ [MO.lst []])[s.length]? = some (.lst (([] : List (Nat × Nat)).map prM)) := at_end
  generalize s ++ [MO.lst []] = s1 at u1 v1 x1
  rw [wpSs_cons]
  by_cases hp : 1 < P
  · have hp' : (1 : Int) < (P : Nat) := by omega
    simp [wpS, wpE, cmpW, hp']
    rw [wpSs_cons]
    simp only [wpS, wpI, wpE, wpEs, List.getElem?_cons_zero, List.getElem?_cons_succ, binW]
    refine digit_call (base := most + 1) h82 (by omega) (by omega) v1 fun s2 r u2 v2 hr => ?_
    simp only []
    refine ⟨by omega, ?_⟩
    rw [rng_nats]
    refine forP (t := .free) (fun p : Nat => MV.int (p : Nat)) (fun i σ s' => ∃ (a b : Option MV) (L : List (Nat × Nat)), σ = [some (.loc st), some (.int (P : Nat)), some (.int (most : Nat)), some (.loc s.length), a, b] ∧ Upd st s s' ∧ StV s' st ∧ s'[s.length]? = some (.lst (L.map prM)) ∧ L.length = i ∧ ∀ p ∈ L, p.1 < P ∧ p.2 < P ∧ p.1 ≠ p.2) (List.range r)
      (fun _ _ _ _ _ => trivial) ?_ ?_ ⟨_, _, [], rfl, u1.trans u2, v2, u2.at_ hne x1, rfl, fun _ z => nomatch z⟩
    · rintro i x σ s3 hx ⟨a, b, L, rfl, u3, v3, x3, hL, hok⟩ k hk
      have hil := (List.getElem?_eq_some_iff.mp hx).1
      have hil' : i < r := by simpa using hil
      simp only [tgW, List.set_cons_succ, List.set_cons_zero]
      rw [wpSs_cons]
      simp only [wpS, wpE, wpEs, List.getElem?_cons_zero, List.getElem?_cons_succ]
      refine digit_call (base := P) h82 (by omega) (by omega) v3 fun s4 a4 u4 v4 ha4 => ?_
      simp only [tgW, List.set_cons_succ, List.set_cons_zero]
      rw [wpSs_cons]
      have x4 := u4.at_ hne x3
      simp only [wpS, wpE, wpEs, List.getElem?_cons_zero, List.getElem?_cons_succ, kindM, x4, bmK, binW, wpSs_nil]
      refine ⟨trivial, ?_⟩
      have e1 : ((P : Nat) : Int) - 1 = ((P - 1 : Nat) : Int) := by omega
      rw [e1]
      refine digit_call (base := P - 1) h82 (by omega) (by omega) v4 fun s5 a5 u5 v5 ha5 => ?_
      have x5 := u5.at_ hne x4
      have e2 : (((a4 : Nat) : Int) + 1 + ((a5 : Nat) : Int)).fmod ((P : Nat) : Int) = (((a4 + 1 + a5) % P : Nat) : Int) := by
        rw [Int.fmod_eq_emod_of_nonneg _ (by omega)]
        simp
      simp only [bfW, binW, e2, bmW, x5]
      refine ⟨by omega, (by show 2 ≤ sizeLine; decide), by simp [sizeLine]; omega, ?_⟩
      have e3 : L.map prM ++ [.tup [.int ((a4 : Nat) : Int), .int (((a4 + 1 + a5) % P : Nat) : Int)]] = (L ++ [(a4, (a4 + 1 + a5) % P)]).map prM := by simp [prM]
      rw [e3]
      refine hk _ _ ⟨_, _, L ++ [(a4, (a4 + 1 + a5) % P)], rfl, ((u3.trans u4).trans u5).set_new (Nat.le_refl _) _, v5.set_ne hne _, List.getElem?_set_self (lt_of_at x5), by simp [hL], fun p hp2 => ?_⟩
      rcases List.mem_append.mp hp2 with z | z
      · exact hok p z
      · have : p = (a4, (a4 + 1 + a5) % P) := by simpa using z
        subst this
        refine ⟨ha4, Nat.mod_lt _ (by omega), ?_⟩
        simp only
        rcases Nat.lt_or_ge (a4 + 1 + a5) P with w | w
        · rw [Nat.mod_eq_of_lt w]
          omega
        · rw [Nat.mod_eq_sub_mod w, Nat.mod_eq_of_lt (by omega)]
          omega
    · rintro σ s3 ⟨a, b, L, rfl, u3, v3, x3, hL, hok⟩
      simp only [Still.out, wpSs_nil]
      rw [wpSs_cons]
      simp only [wpS, wpE, List.getElem?_cons_zero, List.getElem?_cons_succ]
      rw [List.length_range] at hL
      exact q s3 s.length L u3 v3 (Nat.le_refl _) x3 (by omega) ⟨hP1, hP2, by omega, hok⟩
  · have hp' : ¬ (1 : Int) < (P : Nat) := by omega
    simp [wpS, wpE, cmpW, hp', wpSs_nil]
    rw [wpSs_cons]
    simp only [wpS, wpE, List.getElem?_cons_zero, List.getElem?_cons_succ]
    exact q s1 s.length [] u1 v1 (Nat.le_refl _) x1 (Nat.zero_le _) ⟨hP1, hP2, by simp, fun _ z => nomatch z⟩
theorem Upd.keep {st lo : Nat} {s s' : MS} (h : Upd st s s') (v : StV s st) (hl : st < lo) : Keep lo s s' := fun i o e z => by
  refine h.at_ ?_ e
  intro hi
  subst hi
  rcases z with z | z
  · omega
  · rcases v with ⟨a, v⟩ | ⟨a, b, c, v⟩ <;> rw [e] at v <;> cases v <;> exact z _ rfl
end Ly
namespace Ly
open PySem L2
open PyProof.Rows hiding St
def loopW (P : Nat) : WF := fun p g c => if p = g then [] else if (match c with
  | none => false
  | some i => decide (P - 1 ≤ i)) = true then [P + p] else [p]
def loopL (P : Nat) : List (Nat × Nat) := let c := (List.range P).map fun p => (p, (p + 1) % P); c ++ c
/-- from goal up to beneath place: the last one below, if it is met -/
def treeUp (ab : List Nat) (p : Nat) : Nat → Nat → Option Nat
  | 0, _ => none
  | k + 1, b => if p < b then (if ab.getD (b - 1) 0 = p then some b else treeUp ab p k (ab.getD (b - 1) 0)) else none
def treeW (ab : List Nat) : WF := fun p g _ => if p = g then [] else (match treeUp ab p (g + 1) g with
  | some b => [2 * b - 1]
  | none => [2 * p - 2])
theorem above_le {ab : List Nat} (hb : ∀ (i x : Nat), ab[i]? = some x → x ≤ i) (i : Nat) : ab.getD i 0 ≤ i := by
  rw [List.getD_eq_getElem?_getD]
  cases e : ab[i]? with
  | none => exact Nat.zero_le _
  | some x => exact hb i x e
theorem treeUp_fuel {ab : List Nat} {p : Nat} (hb : ∀ (i x : Nat), ab[i]? = some x → x ≤ i) : ∀ (m b k : Nat), b ≤ m → b < k → treeUp ab p k b = treeUp ab p (b + 1) b := by
  intro m
  induction m with
  | zero =>
    intro b k h1 h2
    obtain ⟨k, rfl⟩ : ∃ j, k = j + 1 := ⟨k - 1, by omega⟩
    have : ¬ p < b := by omega
    unfold treeUp
    rw [if_neg this, if_neg this]
  | succ m ih =>
    intro b k h1 h2
    obtain ⟨k, rfl⟩ : ∃ j, k = j + 1 := ⟨k - 1, by omega⟩
    unfold treeUp
    by_cases h : p < b
    · rw [if_pos h, if_pos h]
      have hx := above_le hb (b - 1)
      by_cases h3 : ab.getD (b - 1) 0 = p
      · rw [if_pos h3, if_pos h3]
      · rw [if_neg h3, if_neg h3, ih _ k (by omega) (by omega), ih _ b (by omega) (by omega)]
    · rw [if_neg h, if_neg h]
/-- a tree's lanes -/
def treeL (ab : List Nat) : List (Nat × Nat) := ab.zipIdx.flatMap fun p => [(p.2 + 1, p.1), (p.1, p.2 + 1)]
theorem treeL_snoc (ab : List Nat) (x : Nat) : treeL (ab ++ [x]) = treeL ab ++ [(ab.length + 1, x), (x, ab.length + 1)] := by
  unfold treeL
  rw [List.zipIdx_append, List.flatMap_append]
  simp
theorem treeL_len (ab : List Nat) : (treeL ab).length = 2 * ab.length := by
  have key : ∀ l : List (Nat × Nat), (l.flatMap fun p => [(p.2 + 1, p.1), (p.1, p.2 + 1)]).length = 2 * l.length := by
    intro l
    induction l with
    | nil => rfl
    | cons x l ih =>
      rw [List.flatMap_cons, List.length_append, ih]
      simp
      omega
  unfold treeL
  rw [key, List.length_zipIdx]
theorem tree_ok {ab : List Nat} (h : AbOk ab) : LOk (ab.length + 1) (treeL ab) := by
  refine ⟨by omega, by have := h.1; omega, by rw [treeL_len]; have := h.1; omega, fun p hp => ?_⟩
  unfold treeL at hp
  obtain ⟨⟨x, i⟩, hx, hp⟩ := List.mem_flatMap.mp hp
  obtain ⟨j, hj⟩ := List.getElem?_of_mem hx
  obtain ⟨h1, h2⟩ := zipIdx_at hj
  simp only at h1 h2
  subst h2
  have := h.2 _ _ h1
  have := (List.getElem?_eq_some_iff.mp h1).1
  simp at hp
  rcases hp with rfl | rfl <;> simp only <;> omega
theorem treeUp_lt {ab : List Nat} {p : Nat} (hb : ∀ (i x : Nat), ab[i]? = some x → x ≤ i) : ∀ (k b r : Nat), b ≤ ab.length → treeUp ab p k b = some r → p < r ∧ r ≤ ab.length
  | 0, _, _, _, h => by cases h
  | k + 1, b, r, hbl, h => by
    unfold treeUp at h
    by_cases h1 : p < b
    · rw [if_pos h1] at h
      by_cases h2 : ab.getD (b - 1) 0 = p
      · rw [if_pos h2] at h
        cases h
        exact ⟨h1, hbl⟩
      · rw [if_neg h2] at h
        have := above_le hb (b - 1)
        exact treeUp_lt hb k _ r (by omega) h
    · rw [if_neg h1] at h
      cases h
theorem treeUp_zero {ab : List Nat} (hb : ∀ (i x : Nat), ab[i]? = some x → x ≤ i) : ∀ (k b : Nat), 0 < b → b ≤ k → treeUp ab 0 k b ≠ none
  | 0, b, h1, h2 => by omega
  | k + 1, b, h1, h2 => by
    unfold treeUp
    rw [if_pos h1]
    by_cases h3 : ab.getD (b - 1) 0 = 0
    · rw [if_pos h3]
      exact fun z => nomatch z
    · rw [if_neg h3]
      have := above_le hb (b - 1)
      exact treeUp_zero hb k _ (by omega) (by omega)
theorem treeW_one (ab : List Nat) (p g : Nat) (c : Option Nat) : treeW ab p g c = [] ∨ ∃ x, treeW ab p g c = [x] := by
  unfold treeW
  by_cases h : p = g
  · exact .inl (if_pos h)
  · rw [if_neg h]
    cases treeUp ab p (g + 1) g with
    | none => exact .inr ⟨_, rfl⟩
    | some b => exact .inr ⟨_, rfl⟩
theorem treeW_lt {ab : List Nat} (hb : ∀ (i x : Nat), ab[i]? = some x → x ≤ i) {p g : Nat} {c : Option Nat} (hp : p < ab.length + 1) (hg : g < ab.length + 1) : ∀ x ∈ treeW ab p g c, x < 2 * ab.length := by
  intro x hx
  unfold treeW at hx
  by_cases h : p = g
  · rw [if_pos h] at hx
    cases hx
  · rw [if_neg h] at hx
    cases e : treeUp ab p (g + 1) g with
    | none =>
      rw [e] at hx
      have hx' : x = 2 * p - 2 := by simpa using hx
      rcases Nat.eq_zero_or_pos p with z | z
      · subst z
        exact absurd e (treeUp_zero hb _ _ (by omega) (by omega))
      · omega
    | some b =>
      rw [e] at hx
      have hx' : x = 2 * b - 1 := by simpa using hx
      have := treeUp_lt hb _ _ _ (by omega) e
      omega
theorem loopL_len {P : Nat} : (loopL P).length = 2 * P := by
  simp [loopL]
  omega
theorem mod_succ_ne {P p : Nat} (h : 2 ≤ P) (hp : p < P) : p ≠ (p + 1) % P := by
  rcases Nat.lt_or_ge (p + 1) P with z | z
  · rw [Nat.mod_eq_of_lt z]
    omega
  · rw [show p + 1 = P by omega, Nat.mod_self]
    omega
theorem loop_ok {P : Nat} (h : 2 ≤ P) (h2 : P ≤ 12) : LOk P (loopL P) := by
  refine ⟨by omega, h2, by rw [loopL_len]; omega, fun p hp => ?_⟩
  have hp' : p ∈ (List.range P).map fun p => (p, (p + 1) % P) := by
    simp only [loopL, List.mem_append] at hp
    rcases hp with z | z <;> exact z
  obtain ⟨x, hx, rfl⟩ := List.mem_map.mp hp'
  have hx := List.mem_range.mp hx
  exact ⟨hx, Nat.mod_lt _ (by omega), mod_succ_ne h hx⟩
theorem loopW_cases (P p g : Nat) (c : Option Nat) : loopW P p g c = [] ∨ loopW P p g c = [P + p] ∨ loopW P p g c = [p] := by
  unfold loopW
  by_cases h : p = g
  · exact .inl (if_pos h)
  · rw [if_neg h]
    cases c with
    | none => exact .inr (.inr (if_neg (by simp)))
    | some i =>
      by_cases h2 : P - 1 ≤ i
      · exact .inr (.inl (if_pos (decide_eq_true h2)))
      · exact .inr (.inr (if_neg (by simpa using h2)))

/-! ### rows and columns, nearer lanes -/
def rowL (w h : Nat) : List (Nat × Nat) := (List.range (w * h)).flatMap fun p => (if p % w + 1 < w then [(p, p + 1)] else []) ++ ((if 0 < p % w then [(p, p - 1)] else []) ++ ((if p / w + 1 < h then [(p, p + w)] else []) ++ (if 0 < p / w then [(p, p - w)] else [])))
def rowO (w p g : Nat) : Int := if p % w < g % w then (p : Int) + 1 else if g % w < p % w then (p : Int) - 1 else if p / w < g / w then (p : Int) + w else (p : Int) - w
def endIs (L : List (Nat × Nat)) (o : Int) (l : Nat) : Bool := decide ((L[l]?.map fun q => ((q.2 : Nat) : Int)) = some o)
def rowW (w h : Nat) : WF := fun p g _ => if p = g then [] else (outL (rowL w h) p).filter (endIs (rowL w h) (rowO w p g))
/-- how far a place is from a goal, by k turns -/
def farK (L : List (Nat × Nat)) (g : Nat) : Nat → Nat → Option Nat
  | 0, p => if p = g then some 0 else none
  | k + 1, p => match farK L g k p with
    | some d => some d
    | none => if (L.any fun q => decide (q.1 = p) && decide (farK L g k q.2 = some k)) = true then some (k + 1) else none
def nearB (L : List (Nat × Nat)) (P g d l : Nat) : Bool := match L[l]? with
  | some q => decide ((farK L g P q.2).map (· + 1) = some d)
  | none => false
def nearW (P : Nat) (L : List (Nat × Nat)) : WF := fun p g _ => match farK L g P p with
  | some d => (outL L p).filter (nearB L P g d)
  | none => []
/-! ### tables that stand -/
structure LoopR (s : MS) (n P : Nat) : Prop where
  at_ : ∃ ln, s[n]? = some (.ins 38 [(25, .loc ln), (39, .int (P : Nat))]) ∧ LandR s ln P (loopL P)
  p2 : 2 ≤ P
  p12 : P ≤ 12
  k : mres 38 26 = some 38
structure TreeR (s : MS) (n : Nat) (ab : List Nat) : Prop where
  at_ : ∃ ln k, s[n]? = some (.ins 41 [(25, .loc ln), (42, .loc k)]) ∧ LandR s ln (ab.length + 1) (treeL ab) ∧ s[k]? = some (.lst (natsM ab))
  ok : AbOk ab
  k : mres 41 26 = some 41
structure RowR (s : MS) (n w h : Nat) : Prop where
  at_ : ∃ ln, s[n]? = some (.ins 36 [(25, .loc ln), (37, .int (w : Nat))]) ∧ LandR s ln (w * h) (rowL w h)
  w1 : 1 ≤ w
  h1 : 1 ≤ h
  wh : w * h ≤ 12
  k : mres 36 26 = some 36
structure NearR (s : MS) (n P : Nat) (L : List (Nat × Nat)) : Prop where
  at_ : ∃ (ln k : Nat) (ds : List Nat) (fs : Nat → List (Key × MV)), s[n]? = some (.ins 44 [(25, .loc ln), (45, .loc k)]) ∧ LandR s ln P L ∧ s[k]? = some (.lst (ds.map .loc)) ∧ ds.length = P ∧ (∀ (i d : Nat), ds[i]? = some d → s[d]? = some (MO.dlf (fs i))) ∧
    ∀ i, i < P → ∀ p : Nat, lkD (.inl (p : Int)) (fs i) = (farK L i P p).map fun x => MV.int (x : Nat)
  ok : LOk P L
  k : mres 44 26 = some 44
structure DictR (cl : Nat) (s : MS) (n P : Nat) (L : List (Nat × Nat)) (wf : WF) : Prop where
  at_ : ∃ fs ln d kvs, s[n]? = some (.ins cl fs) ∧ lkM 25 fs = some (.loc ln) ∧ LandR s ln P L ∧ lkM 30 fs = some (.loc d) ∧ s[d]? = some (.dtp kvs) ∧
    ∀ p g c, (∃ l, lkD (keyM p g c) kvs = some (.loc l) ∧ s[l]? = some (.lst (natsM (wf p g c)))) ∨ (lkD (keyM p g c) kvs = none ∧ wf p g c = [])
  ok : LOk P L
  k : mres cl 26 = some cl
inductive TabR (s : MS) (n : Nat) : Nat → List (Nat × Nat) → WF → Prop
  | loop {P : Nat} : LoopR s n P → TabR s n P (loopL P) (loopW P)
  | tree {ab : List Nat} : TreeR s n ab → TabR s n (ab.length + 1) (treeL ab) (treeW ab)
  | row {w h : Nat} : RowR s n w h → TabR s n (w * h) (rowL w h) (rowW w h)
  | near {P : Nat} {L : List (Nat × Nat)} : NearR s n P L → TabR s n P L (nearW P L)
  | told {P : Nat} {L : List (Nat × Nat)} {wf : WF} : DictR 101 s n P L wf → TabR s n P L wf
  | less {P : Nat} {L : List (Nat × Nat)} {wf : WF} : DictR 27 s n P L wf → TabR s n P L wf
/-- the lists of a table are new -/
structure FrT (lo : Nat) (s : MS) (n : Nat) : Prop where
  t : ∀ c fs k, s[n]? = some (.ins c fs) → (lkM 42 fs = some (.loc k) ∨ lkM 45 fs = some (.loc k)) → lo ≤ k
  d : ∀ c fs d kvs p g cm l, s[n]? = some (.ins c fs) → lkM 30 fs = some (.loc d) → s[d]? = some (.dtp kvs) → lkD (keyM p g cm) kvs = some (.loc l) → lo ≤ l
theorem FrT.of {lo : Nat} {s : MS} {n c : Nat} {fs : List (Nat × MV)} (h : s[n]? = some (.ins c fs)) (h1 : ∀ k, lkM 42 fs = some (.loc k) → lo ≤ k) (h2 : ∀ k, lkM 45 fs = some (.loc k) → lo ≤ k)
    (h3 : ∀ d kvs p g cm l, lkM 30 fs = some (.loc d) → s[d]? = some (.dtp kvs) → lkD (keyM p g cm) kvs = some (.loc l) → lo ≤ l) : FrT lo s n := by
  refine ⟨fun c' fs' k e hz => ?_, fun c' fs' d kvs p g cm l e a b e2 => ?_⟩
  · rw [h] at e
    cases e
    rcases ‹lkM 42 fs = some (MV.loc k) ∨ lkM 45 fs = some (MV.loc k)› with z | z
    · exact h1 k z
    · exact h2 k z
  · rw [h] at e
    cases e
    exact h3 d kvs p g cm l a b e2

theorem TabR.land {s : MS} {n P : Nat} {L : List (Nat × Nat)} {wf : WF} (h : TabR s n P L wf) : ∃ c fs ln, s[n]? = some (.ins c fs) ∧ lkM 25 fs = some (.loc ln) ∧ LandR s ln P L := by
  cases h with
  | loop h => obtain ⟨ln, h1, h2⟩ := h.at_; exact ⟨_, _, ln, h1, rfl, h2⟩
  | tree h => obtain ⟨ln, k, h1, h2, _⟩ := h.at_; exact ⟨_, _, ln, h1, rfl, h2⟩
  | row h => obtain ⟨ln, h1, h2⟩ := h.at_; exact ⟨_, _, ln, h1, rfl, h2⟩
  | near h => obtain ⟨ln, k, ds, fs, h1, h2, _⟩ := h.at_; exact ⟨_, _, ln, h1, rfl, h2⟩
  | told h => obtain ⟨fs, ln, d, kvs, h1, h2, h3, _⟩ := h.at_; exact ⟨_, _, ln, h1, h2, h3⟩
  | less h => obtain ⟨fs, ln, d, kvs, h1, h2, h3, _⟩ := h.at_; exact ⟨_, _, ln, h1, h2, h3⟩
/-- a table stays where what it stands on stays -/
theorem TabR.by_ {s s' : MS} {n P : Nat} {L : List (Nat × Nat)} {wf : WF} (h : TabR s n P L wf) (ki : ∀ {i : Nat} {c : Nat} {fs : List (Nat × MV)}, s[i]? = some (.ins c fs) → s'[i]? = some (.ins c fs)) (kd : ∀ {i : Nat} {kvs : List (NestedKey × MV)}, s[i]? = some (.dtp kvs) → s'[i]? = some (.dtp kvs))
    (kl : ∀ {i : Nat} {kvs : List (Key × MV)}, s[i]? = some (.dlf kvs) → s'[i]? = some (.dlf kvs)) (kt : ∀ {c : Nat} {fs : List (Nat × MV)} {k : Nat} {xs : List MV}, s[n]? = some (.ins c fs) → (lkM 42 fs = some (.loc k) ∨ lkM 45 fs = some (.loc k)) → s[k]? = some (.lst xs) → s'[k]? = some (.lst xs))
    (kw : ∀ {c : Nat} {fs : List (Nat × MV)} {d : Nat} {kvs : List (NestedKey × MV)} {p g : Nat} {cm : Option Nat} {l : Nat} {xs : List MV}, s[n]? = some (.ins c fs) → lkM 30 fs = some (.loc d) → s[d]? = some (.dtp kvs) → lkD (keyM p g cm) kvs = some (.loc l) → s[l]? = some (.lst xs) → s'[l]? = some (.lst xs)) : TabR s' n P L wf := by
  have kL : ∀ {i P : Nat} {L : List (Nat × Nat)}, LandR s i P L → LandR s' i P L := fun h => ki h
  cases h with
  | loop h =>
    obtain ⟨ln, h1, h2⟩ := h.at_
    exact .loop ⟨⟨ln, ki h1, kL h2⟩, h.p2, h.p12, h.k⟩
  | tree h =>
    obtain ⟨ln, k, h1, h2, h3⟩ := h.at_
    exact .tree ⟨⟨ln, k, ki h1, kL h2, kt h1 (.inl rfl) h3⟩, h.ok, h.k⟩
  | row h =>
    obtain ⟨ln, h1, h2⟩ := h.at_
    exact .row ⟨⟨ln, ki h1, kL h2⟩, h.w1, h.h1, h.wh, h.k⟩
  | near h =>
    obtain ⟨ln, k, ds, fs, h1, h2, h3, h4, h5, h6⟩ := h.at_
    exact .near ⟨⟨ln, k, ds, fs, ki h1, kL h2, kt h1 (.inr rfl) h3, h4, fun i d e => kl (h5 i d e), h6⟩, h.ok, h.k⟩
  | told h =>
    obtain ⟨fs, ln, d, kvs, h1, h2, h3, h4, h5, h6⟩ := h.at_
    refine .told ⟨⟨fs, ln, d, kvs, ki h1, h2, kL h3, h4, kd h5, fun p g c => ?_⟩, h.ok, h.k⟩
    rcases h6 p g c with ⟨l, e1, e2⟩ | e
    · exact .inl ⟨l, e1, kw h1 h4 h5 e1 e2⟩
    · exact .inr e
  | less h =>
    obtain ⟨fs, ln, d, kvs, h1, h2, h3, h4, h5, h6⟩ := h.at_
    refine .less ⟨⟨fs, ln, d, kvs, ki h1, h2, kL h3, h4, kd h5, fun p g c => ?_⟩, h.ok, h.k⟩
    rcases h6 p g c with ⟨l, e1, e2⟩ | e
    · exact .inl ⟨l, e1, kw h1 h4 h5 e1 e2⟩
    · exact .inr e
theorem TabR.mono {s s' : MS} {n P : Nat} {L : List (Nat × Nat)} {wf : WF} (h : TabR s n P L wf) (m : Pre s s') : TabR s' n P L wf := h.by_ (fun e => m.at_ e) (fun e => m.at_ e) (fun e => m.at_ e) (fun _ _ e => m.at_ e) (fun _ _ _ _ e => m.at_ e)
theorem TabR.keep {lo : Nat} {s s' : MS} {n P : Nat} {L : List (Nat × Nat)} {wf : WF} (h : TabR s n P L wf) (K : Keep lo s s') (f : FrT lo s n) : TabR s' n P L wf :=
  h.by_ (fun e => K _ _ e (.inr fun _ z => nomatch z)) (fun e => K _ _ e (.inr fun _ z => nomatch z)) (fun e => K _ _ e (.inr fun _ z => nomatch z)) (fun a b e => K _ _ e (.inl (f.t _ _ _ a b))) (fun a b c d e => K _ _ e (.inl (f.d _ _ _ _ _ _ _ _ a b c d)))
theorem FrT.keep {lo : Nat} {s s' : MS} {n P : Nat} {L : List (Nat × Nat)} {wf : WF} (f : FrT lo s n) (h : TabR s n P L wf) (K : Keep lo s s') : FrT lo s' n := by
  have ki : ∀ {i : Nat} {c : Nat} {fs : List (Nat × MV)}, s[i]? = some (.ins c fs) → s'[i]? = some (.ins c fs) := fun e => K _ _ e (.inr fun _ z => nomatch z)
  obtain ⟨c0, fs0, hn, hd⟩ : ∃ c fs, s[n]? = some (.ins c fs) ∧ ∀ d, lkM 30 fs = some (.loc d) → ∃ kvs, s[d]? = some (.dtp kvs) := by
    cases h with
    | loop h => obtain ⟨ln, h1, h2⟩ := h.at_; exact ⟨_, _, h1, fun d e => by simp [lkM] at e⟩
    | tree h => obtain ⟨ln, k, h1, h2, _⟩ := h.at_; exact ⟨_, _, h1, fun d e => by simp [lkM] at e⟩
    | row h => obtain ⟨ln, h1, h2⟩ := h.at_; exact ⟨_, _, h1, fun d e => by simp [lkM] at e⟩
    | near h => obtain ⟨ln, k, ds, fs, h1, h2, _⟩ := h.at_; exact ⟨_, _, h1, fun d e => by simp [lkM] at e⟩
    | told h => obtain ⟨fs, ln, d, kvs, h1, h2, h3, h4, h5, h6⟩ := h.at_; exact ⟨_, _, h1, fun d' e => by rw [h4] at e; cases e; exact ⟨kvs, h5⟩⟩
    | less h => obtain ⟨fs, ln, d, kvs, h1, h2, h3, h4, h5, h6⟩ := h.at_; exact ⟨_, _, h1, fun d' e => by rw [h4] at e; cases e; exact ⟨kvs, h5⟩⟩
  have hn' := ki hn
  refine ⟨fun c fs k a b => ?_, fun c fs d kvs p g cm l a b e e2 => ?_⟩
  · rw [hn'] at a
    cases a
    exact f.t _ _ k hn b
  · rw [hn'] at a
    cases a
    obtain ⟨kvs', e3⟩ := hd d b
    have := K _ _ e3 (.inr fun _ z => nomatch z)
    rw [this] at e
    cases e
    exact f.d _ _ d _ p g cm l hn b e3 e2
theorem FrT.le {lo lo' : Nat} {s : MS} {n : Nat} (h : FrT lo s n) (le : lo' ≤ lo) : FrT lo' s n :=
  ⟨fun c fs k a b => Nat.le_trans le (h.t c fs k a b), fun c fs d kvs p g cm l a b e f => Nat.le_trans le (h.d c fs d kvs p g cm l a b e f)⟩

/-! ### what the ways are like -/
structure WOk (P : Nat) (L : List (Nat × Nat)) (wf : WF) : Prop where
  l : LOk P L
  o : ∀ p g c, p < P → g < P → ∀ x ∈ wf p g c, x ∈ outL L p
  r : ∀ p g c, (wf p g c).Pairwise (· < ·)
  e : ∀ p c, p < P → wf p p c = []
theorem out_iff {L : List (Nat × Nat)} {p x : Nat} : x ∈ outL L p ↔ ∃ q, L[x]? = some q ∧ q.1 = p := by
  unfold outL
  rw [List.mem_filter, List.mem_range, decide_eq_true_iff]
  constructor
  · rintro ⟨h1, h2⟩
    rw [List.getElem?_eq_getElem h1] at h2
    exact ⟨_, List.getElem?_eq_getElem h1, by simpa using h2⟩
  · rintro ⟨q, h1, rfl⟩
    exact ⟨(List.getElem?_eq_some_iff.mp h1).1, by rw [h1]; rfl⟩
theorem into_iff {L : List (Nat × Nat)} {p x : Nat} : x ∈ intoL L p ↔ ∃ q, L[x]? = some q ∧ q.2 = p := by
  unfold intoL
  rw [List.mem_filter, List.mem_range, decide_eq_true_iff]
  constructor
  · rintro ⟨h1, h2⟩
    rw [List.getElem?_eq_getElem h1] at h2
    exact ⟨_, List.getElem?_eq_getElem h1, by simpa using h2⟩
  · rintro ⟨q, h1, rfl⟩
    exact ⟨(List.getElem?_eq_some_iff.mp h1).1, by rw [h1]; rfl⟩
theorem out_rising (L : List (Nat × Nat)) (p : Nat) : (outL L p).Pairwise (· < ·) := List.Pairwise.filter _ List.pairwise_lt_range
theorem loopL_at {P p : Nat} (h : p < P) : (loopL P)[p]? = some (p, (p + 1) % P) ∧ (loopL P)[P + p]? = some (p, (p + 1) % P) := by
  have hC : ((List.range P).map fun p => (p, (p + 1) % P))[p]? = some (p, (p + 1) % P) := by
    rw [List.getElem?_map, List.getElem?_range h]
    rfl
  constructor
  · show (_ ++ _)[p]? = _
    rw [List.getElem?_append_left (by simpa using h)]
    exact hC
  · show (_ ++ _)[P + p]? = _
    rw [List.getElem?_append_right (by simp)]
    simpa using hC
theorem wok_loop {P : Nat} (h : 2 ≤ P) (h2 : P ≤ 12) : WOk P (loopL P) (loopW P) := by
  refine ⟨loop_ok h h2, fun p g c hp hg x hx => ?_, fun p g c => ?_, fun p c _ => if_pos rfl⟩
  · rw [out_iff]
    rcases loopW_cases P p g c with z | z | z <;> rw [z] at hx
    · cases hx
    · rw [List.mem_singleton.mp hx]
      exact ⟨_, (loopL_at hp).2, rfl⟩
    · rw [List.mem_singleton.mp hx]
      exact ⟨_, (loopL_at hp).1, rfl⟩
  · rcases loopW_cases P p g c with z | z | z <;> rw [z] <;> simp
theorem treeL_at {ab : List Nat} {k x : Nat} (h : ab[k]? = some x) : (treeL ab)[2 * k]? = some (k + 1, x) ∧ (treeL ab)[2 * k + 1]? = some (x, k + 1) := by
  have key : ∀ (r pre : List Nat), ab = pre ++ r → k < pre.length → (treeL pre)[2 * k]? = some (k + 1, x) ∧ (treeL pre)[2 * k + 1]? = some (x, k + 1) → (treeL ab)[2 * k]? = some (k + 1, x) ∧ (treeL ab)[2 * k + 1]? = some (x, k + 1) := by
    intro r
    induction r with
    | nil =>
      intro pre e _ h
      rw [List.append_nil] at e
      rw [e]
      exact h
    | cons y r ih =>
      intro pre e hk h
      refine ih (pre ++ [y]) (by rw [e]; simp) (by simp; omega) ?_
      have hl := treeL_len pre
      rw [treeL_snoc, List.getElem?_append_left (by omega), List.getElem?_append_left (by omega)]
      exact h
  have hk := (List.getElem?_eq_some_iff.mp h).1
  have e : ab = (ab.take k ++ [x]) ++ ab.drop (k + 1) := by
    have : ab[k] = x := (List.getElem?_eq_some_iff.mp h).2
    rw [List.append_assoc, ← this]
    simp
  have htl : (ab.take k).length = k := by rw [List.length_take]; omega
  refine key _ _ e (by simp; omega) ?_
  have hl := treeL_len (ab.take k)
  rw [htl] at hl
  rw [treeL_snoc, List.getElem?_append_right (by omega), List.getElem?_append_right (by omega), hl, htl]
  simp
theorem treeUp_at {ab : List Nat} {p : Nat} : ∀ {k b r : Nat}, treeUp ab p k b = some r → 0 < r ∧ ab.getD (r - 1) 0 = p
  | 0, _, _, h => nomatch h
  | k + 1, b, r, h => by
    unfold treeUp at h
    split at h
    · split at h
      · cases h
        exact ⟨by omega, by assumption⟩
      · exact treeUp_at h
    · cases h
theorem wok_tree {ab : List Nat} (h : AbOk ab) : WOk (ab.length + 1) (treeL ab) (treeW ab) := by
  refine ⟨tree_ok h, fun p g c hp hg x hx => ?_, fun p g c => ?_, fun p c _ => if_pos rfl⟩
  · rw [out_iff]
    unfold treeW at hx
    split at hx
    · cases hx
    · rename_i hne
      split at hx
      · rename_i b e
        rw [List.mem_singleton.mp hx]
        obtain ⟨h1, h2⟩ := treeUp_at e
        obtain ⟨_, h3⟩ := treeUp_lt h.2 _ _ _ (by omega) e
        obtain ⟨y, hy⟩ : ∃ y, ab[b - 1]? = some y := ⟨_, List.getElem?_eq_getElem (by omega)⟩
        have h4 := (treeL_at hy).2
        rw [List.getD_eq_getElem?_getD, hy] at h2
        refine ⟨(y, b - 1 + 1), ?_, h2⟩
        rw [← h4]
        congr 1
        omega
      · rename_i e
        rw [List.mem_singleton.mp hx]
        have hp0 : 0 < p := by
          rcases Nat.eq_zero_or_pos p with z | z
          · subst z
            exact absurd e (treeUp_zero h.2 _ _ (by omega) (by omega))
          · exact z
        obtain ⟨y, hy⟩ : ∃ y, ab[p - 1]? = some y := ⟨_, List.getElem?_eq_getElem (by omega)⟩
        refine ⟨(p - 1 + 1, y), ?_, by simp; omega⟩
        rw [← (treeL_at hy).1]
        congr 1
        omega
  · rcases treeW_one ab p g c with z | ⟨x, z⟩ <;> rw [z] <;> simp
theorem row_ok {w h : Nat} (hw : 1 ≤ w) (hh : 1 ≤ h) (hwh : w * h ≤ 12) : LOk (w * h) (rowL w h) := by
  have key : ∀ w ∈ List.range 13, ∀ h ∈ List.range 13, 1 ≤ w → 1 ≤ h → w * h ≤ 12 → (rowL w h).length ≤ 40 ∧ ∀ p ∈ rowL w h, p.1 < w * h ∧ p.2 < w * h ∧ p.1 ≠ p.2 := by decide +kernel
  have h1 : w ≤ w * h := Nat.le_mul_of_pos_right _ hh
  have h2 : h ≤ w * h := Nat.le_mul_of_pos_left _ hw
  obtain ⟨a, b⟩ := key w (by simp; omega) h (by simp; omega) hw hh hwh
  exact ⟨by omega, hwh, a, b⟩
theorem wok_row {w h : Nat} (hw : 1 ≤ w) (hh : 1 ≤ h) (hwh : w * h ≤ 12) : WOk (w * h) (rowL w h) (rowW w h) := by
  refine ⟨row_ok hw hh hwh, fun p g c hp hg x hx => ?_, fun p g c => ?_, fun p c _ => if_pos rfl⟩
  · unfold rowW at hx
    split at hx
    · cases hx
    · exact (List.mem_filter.mp hx).1
  · unfold rowW
    split
    · exact .nil
    · exact (out_rising _ _).filter _
theorem farK_goal {L : List (Nat × Nat)} {g : Nat} : ∀ k, farK L g k g = some 0
  | 0 => if_pos rfl
  | k + 1 => by
    unfold farK
    rw [farK_goal k]
theorem wok_near {P : Nat} {L : List (Nat × Nat)} (h : LOk P L) : WOk P L (nearW P L) := by
  refine ⟨h, fun p g c hp hg x hx => ?_, fun p g c => ?_, fun p c _ => ?_⟩
  · unfold nearW at hx
    split at hx
    · exact (List.mem_filter.mp hx).1
    · cases hx
  · unfold nearW
    split
    · exact (out_rising _ _).filter _
    · exact .nil
  · unfold nearW
    rw [farK_goal]
    simp only
    rw [List.filter_eq_nil_iff]
    intro x hx
    unfold nearB
    split
    · rename_i q _
      simp
    · simp
end Ly
namespace Ly
open PySem L2
open PyProof.Rows hiding St

def spLoopWays : MSp := fun vs s Q _ => ∃ (n P p g : Nat) (c : Option Nat), vs = [.loc n, .int (p : Nat), .int (g : Nat), cameM c] ∧ LoopR s n P ∧ p < P ∧ ∀ s' m, NewL s s' m (natsM (loopW P p g c)) → Q (.loc m) s'
def spTreeWays : MSp := fun vs s Q _ => ∃ (n p g : Nat) (ab : List Nat) (c : Option Nat), vs = [.loc n, .int (p : Nat), .int (g : Nat), cameM c] ∧ TreeR s n ab ∧ p < ab.length + 1 ∧ g < ab.length + 1 ∧ ∀ s' m, NewL s s' m (natsM (treeW ab p g c)) → Q (.loc m) s'
def spRowWays : MSp := fun vs s Q _ => ∃ (n w h p g : Nat) (c : Option Nat), vs = [.loc n, .int (p : Nat), .int (g : Nat), cameM c] ∧ RowR s n w h ∧ p < w * h ∧ g < w * h ∧ ∀ s' m, NewL s s' m (natsM (rowW w h p g c)) → Q (.loc m) s'
def spNearWays : MSp := fun vs s Q _ => ∃ (n P p g : Nat) (L : List (Nat × Nat)) (c : Option Nat), vs = [.loc n, .int (p : Nat), .int (g : Nat), cameM c] ∧ NearR s n P L ∧ p < P ∧ g < P ∧ ∀ s' m, NewL s s' m (natsM (nearW P L p g c)) → Q (.loc m) s'
def spDictWays (cl : Nat) : MSp := fun vs s Q _ => ∃ (n P p g : Nat) (L : List (Nat × Nat)) (c : Option Nat) (wf : WF), vs = [.loc n, .int (p : Nat), .int (g : Nat), cameM c] ∧ DictR cl s n P L wf ∧ ∀ s' m, NewL s s' m (natsM (wf p g c)) → Q (.loc m) s'
structure HasWays (Γ : Prg) : Prop where
  loop : mres 38 26 = some 38 → Γ 38 26 = some spLoopWays
  tree : mres 41 26 = some 41 → Γ 41 26 = some spTreeWays
  row : mres 36 26 = some 36 → Γ 36 26 = some spRowWays
  near : mres 44 26 = some 44 → Γ 44 26 = some spNearWays
  told : mres 101 26 = some 101 → Γ 101 26 = some (spDictWays 101)
  less : mres 27 26 = some 27 → Γ 27 26 = some (spDictWays 27)
/-- a call of ways, of whatever table -/
theorem ways_call {Γ : Prg} (hw : HasWays Γ) {s : MS} {n P p g : Nat} {L : List (Nat × Nat)} {wf : WF} (h : TabR s n P L wf) (hp : p < P) (hg : g < P) (c : Option Nat) {Q : QV} {R : QX} (q : ∀ s' m, NewL s s' m (natsM (wf p g c)) → Q (.loc m) s') :
    methW Γ n 26 s fun d => callW Γ d 26 fun sp => sp [.loc n, .int (p : Nat), .int (g : Nat), cameM c] s Q R := by
  cases h with
  | loop h =>
    obtain ⟨ln, h1, _⟩ := h.at_
    simp only [methW, h1, h.k, callW, hw.loop h.k]
    exact ⟨n, _, p, g, c, by rw [dflt_nil]; rfl, h, hp, q⟩
  | tree h =>
    obtain ⟨ln, k, h1, _⟩ := h.at_
    simp only [methW, h1, h.k, callW, hw.tree h.k]
    exact ⟨n, p, g, _, c, by rw [dflt_nil]; rfl, h, hp, hg, q⟩
  | row h =>
    obtain ⟨ln, h1, _⟩ := h.at_
    simp only [methW, h1, h.k, callW, hw.row h.k]
    exact ⟨n, _, _, p, g, c, by rw [dflt_nil]; rfl, h, hp, hg, q⟩
  | near h =>
    obtain ⟨ln, k, ds, fs, h1, _⟩ := h.at_
    simp only [methW, h1, h.k, callW, hw.near h.k]
    exact ⟨n, P, p, g, L, c, by rw [dflt_nil]; rfl, h, hp, hg, q⟩
  | told h =>
    obtain ⟨fs, ln, d, kvs, h1, _⟩ := h.at_
    simp only [methW, h1, h.k, callW, hw.told h.k]
    exact ⟨n, P, p, g, L, c, wf, by rw [dflt_nil]; rfl, h, q⟩
  | less h =>
    obtain ⟨fs, ln, d, kvs, h1, _⟩ := h.at_
    simp only [methW, h1, h.k, callW, hw.less h.k]
    exact ⟨n, P, p, g, L, c, wf, by rw [dflt_nil]; rfl, h, q⟩
end Ly
namespace Ly
open PySem L2
open PyProof.Rows hiding St
/-- a row: place, goal, came, ways, and where the ways lie -/
structure Row where
  p : Nat
  g : Nat
  c : Option Nat
  ws : List Nat
  w : Nat
def rowM (r : Row) : MV := .tup [.int (r.p : Nat), .int (r.g : Nat), cameM r.c, .loc r.w]
def Row.key (r : Row) : Nat × Nat × Option Nat := (r.p, r.g, r.c)
structure RowG (P : Nat) (L : List (Nat × Nat)) (r : Row) : Prop where
  p : r.p < P
  g : r.g < P
  ne : r.p ≠ r.g
  c : ∀ i, r.c = some i → i ∈ intoL L r.p
  ws : ∀ x ∈ r.ws, x ∈ outL L r.p
  l : r.ws.length ≤ 40
structure RowsOk (P : Nat) (L : List (Nat × Nat)) (rows : List Row) : Prop where
  g : ∀ r ∈ rows, RowG P L r
  n : (rows.map Row.key).Nodup
def RowsAt (s : MS) (m lo : Nat) (rows : List Row) : Prop := s[m]? = some (.lst (rows.map rowM)) ∧ ∀ r ∈ rows, lo ≤ r.w ∧ r.w ≠ m ∧ s[r.w]? = some (.lst (natsM r.ws))
def spGood : MSp := fun vs s Q _ => ∃ (n ln P : Nat) (L : List (Nat × Nat)) (r : Row) (fs : List (Nat × MV)), vs = [.loc n, .int (r.p : Nat), .int (r.g : Nat), cameM r.c, .loc r.w] ∧ s[n]? = some (.ins 101 fs) ∧ lkM 25 fs = some (.loc ln) ∧ LandR s ln P L ∧ LOk P L ∧ RowG P L r ∧ s[r.w]? = some (.lst (natsM r.ws)) ∧ ∀ s', Pre s s' → Q (.bl true) s'
theorem law_good {Γ : Prg} (hl : HasLand Γ) : Law Γ d_Told_is_good spGood := by
  rintro _ s Q R ⟨n, ln, P, L, r, fs, rfl, h1, h2, h3, lk, rg, hw, q⟩
  refine ⟨rfl, ?_⟩
  have hL := lk.l
  have hrp := rg.p
  have hrg := rg.g
  have hrn := rg.ne
  show wpSs Γ b_Told_is_good (stM b_Told_is_good_N [.loc n, .int (r.p : Nat), .int (r.g : Nat), cameM r.c, .loc r.w]) s _
  unfold b_Told_is_good
  rw [wpSs_cons]
  simp only [b_Told_is_good_N, stM, wpS, wpI, wpE, wpEs, List.length_cons, List.length_nil, List.map_cons, List.map_nil, List.cons_append, List.nil_append, List.replicate, Nat.sub_self, List.getElem?_cons_zero, List.getElem?_cons_succ]
  refine ⟨(by show 2 ≤ sizeLine; decide), ?_⟩
  have x1 : (s ++ [MO.lst [.int (r.p : Nat), .int (r.g : Nat)]])[s.length]? = some (.lst (natsM [r.p, r.g])) := at_end
  have p1 : Pre s (s ++ [MO.lst [.int (r.p : Nat), .int (r.g : Nat)]]) := Pre.add _
  generalize s ++ [MO.lst [.int (r.p : Nat), .int (r.g : Nat)]] = s1 at x1 p1
  have k1 := p1.at_ h1
  have k3 : s1[ln]? = some (.ins 17 (landFs P L)) := p1.at_ h3
  simp only [seqIt, x1]
  refine forP (t := .obj s.length (natsM [r.p, r.g])) (fun p : Nat => MV.int (p : Nat)) (fun _ σ s' => ∃ a b c, σ = [some (.loc n), some (.int (r.p : Nat)), some (.int (r.g : Nat)), some (cameM r.c), some (.loc r.w), a, b, c] ∧ s' = s1) [r.p, r.g]
    (fun _ _ _ _ h' => by obtain ⟨_, _, _, _, rfl⟩ := h'; exact x1) ?_ ?_ ⟨_, _, _, rfl, rfl⟩
  · rintro i x σ s' hx ⟨a, b, c, rfl, rfl⟩ k hk
    have hxm := List.mem_of_getElem? hx
    have hxP : x < P := by
      simp at hxm
      omega
    have g1 : ¬ ((x : Nat) : Int) < 0 := by omega
    have g2 : ¬ ((P : Nat) : Int) ≤ (x : Nat) := by omega
    simp only [tgW, List.set_cons_succ, List.set_cons_zero]
    rw [wpSs_cons]
    simp [wpS, wpE, wpEs, cmpW, g1, fldW, k1, h2, k3, landFs, lkM, g2, wpSs_nil]
    exact hk _ _ ⟨_, _, _, rfl, rfl⟩
  · rintro σ s' ⟨a, b, c, rfl, hs'⟩
    rw [hs']
    clear hs'
    have g3 : ¬ ((r.p : Nat) : Int) = (r.g : Nat) := by omega
    simp only [Still.out]
    have tail : ∀ s2, Pre s1 s2 → wpSs Γ (.cons (.asg (.nm 6) (.meth (.fld (.var 0) 25) 22 (.cons (.var 1) .nil)))
    (.cons (.ret (.cmp .eq (.lc (.var 7) (.nm 7) (.seq (.var 4)) (.so (.cmp .notin (.var 7) (.var 6))) [7]) (.lst (.nil)))) .nil)) [some (.loc n), some (.int (r.p : Nat)), some (.int (r.g : Nat)), some (cameM r.c), some (.loc r.w), a, b, c] s2 { nx := fun _ s' => Q .non s', rt := Q, ex := fun y _ s' => R y s' } := by
      intro s2 p2
      have p12 := p1.trans p2
      rw [wpSs_cons]
      simp only [wpS, wpE, wpEs, List.getElem?_cons_zero, List.getElem?_cons_succ, fldW, p2.at_ k1, h2]
      refine out_call hl (h3.mono p12) hL fun s3 m3 n3 => ?_
      obtain ⟨p3, l3, x3⟩ := n3
      simp only [tgW, List.set_cons_succ, List.set_cons_zero]
      rw [wpSs_cons]
      simp only [wpS, wpE, wpEs, wpI, List.getElem?_cons_zero, List.getElem?_cons_succ]
      have p13 := p12.trans p3
      have w3 := p13.at_ hw
      simp only [seqIt, w3]
      refine lcP (t := .obj r.w (natsM r.ws)) (fun l : Nat => MV.int (l : Nat)) (fun _ => none) r.ws (by have := rg.l; omega) (fun acc => (Pre.add _).at_ w3) ?_ ?_
      · intro l hlm acc K ha hK
        have x4 : (s3 ++ [MO.lst acc])[m3]? = some (.lst (natsM (outL L r.p))) := (Pre.add _).at_ x3
        simp only [wipeM, tgW, wpT, wpE, List.set_cons_zero, List.set_cons_succ, List.getElem?_cons_zero, List.getElem?_cons_succ, cmpW, inW, x4]
        refine .inl ⟨rfl, nats_flat _, ?_⟩
        rw [nats_in]
        simp [rg.ws l hlm]
        simpa using hK
      · have e0 : r.ws.filterMap (fun _ => (none : Option MV)) = natsM [] := by
          induction r.ws with
          | nil => rfl
          | cons x l ih => simpa using ih
        rw [e0]
        simp only [Still.out, cmpW]
        refine ⟨by decide, ?_⟩
        refine ne_nil (l := []) ((Pre.add _).at_ at_end) at_end ?_
        exact q _ (p13.trans ((Pre.add _).trans (Pre.add _)))
    rw [wpSs_cons]
    cases hc : r.c with
    | none =>
      rw [hc] at tail
      simp [wpS, wpE, cmpW, eqW_int, g3, cameM, wpSs_nil]
      exact tail _ Pre.refl
    | some i =>
      rw [hc] at tail
      simp only [wpS, wpE, wpEs, cmpW, eqW_int, g3, cameM, List.getElem?_cons_zero, List.getElem?_cons_succ, fldW, k1, h2, decide_false]
      refine into_call hl (h3.mono p1) hL fun s2 m2 n2 => ?_
      obtain ⟨p2, l2, x2⟩ := n2
      simp only [inW, x2]
      refine .inl ⟨rfl, nats_flat _, ?_⟩
      rw [nats_in]
      simp [rg.c i hc, wpSs_nil]
      exact tail _ p2
theorem intsOf_nats (l : List Nat) : intsOf (natsM l) = some (l.map fun i => ((i : Nat) : Int)) := by
  have := intsOf_map (l.map fun i => ((i : Nat) : Int))
  rw [List.map_map] at this
  exact this
theorem keyM_inj {p g p' g' : Nat} {c c' : Option Nat} (h : keyM p g c = keyM p' g' c') : p = p' ∧ g = g' ∧ c = c' := by
  unfold keyM at h
  cases c with
  | none =>
    cases c' with
    | none =>
      simp at h
      exact ⟨by omega, by omega, rfl⟩
    | some j => simp at h
  | some i =>
    cases c' with
    | none => simp at h
    | some j =>
      simp at h
      exact ⟨by omega, by omega, by rw [show i = j by omega]⟩

/-- a strictly rising list is told by its members -/
theorem rise_eq : ∀ {a b : List Int}, a.Pairwise (· < ·) → b.Pairwise (· < ·) → (∀ x, x ∈ a ↔ x ∈ b) → a = b
  | [], [], _, _, _ => rfl
  | [], y :: b, _, _, h => nomatch (h y).mpr List.mem_cons_self
  | x :: a, [], _, _, h => nomatch (h x).mp List.mem_cons_self
  | x :: a, y :: b, h1, h2, h => by
    rw [List.pairwise_cons] at h1 h2
    have hx := (h x).mp List.mem_cons_self
    have hy := (h y).mpr List.mem_cons_self
    have e : x = y := by
      rcases List.mem_cons.mp hx with z | z
      · exact z
      · rcases List.mem_cons.mp hy with w | w
        · exact w.symm
        · have := h1.1 y w
          have := h2.1 x z
          omega
    subst e
    rw [rise_eq h1.2 h2.2 fun z => ?_]
    constructor
    · intro hz
      rcases List.mem_cons.mp ((h z).mp (List.mem_cons_of_mem _ hz)) with w | w
      · subst w
        exact absurd (h1.1 z hz) (by omega)
      · exact w
    · intro hz
      rcases List.mem_cons.mp ((h z).mpr (List.mem_cons_of_mem _ hz)) with w | w
      · subst w
        exact absurd (h2.1 z hz) (by omega)
      · exact w
/-- the set of a list of lanes, rising -/
def sortD (N : Nat) (ws : List Nat) : List Nat := (List.range N).filter fun x => decide (x ∈ ws)
theorem sortD_rise (N : Nat) (ws : List Nat) : (sortD N ws).Pairwise (· < ·) := List.Pairwise.filter _ List.pairwise_lt_range
theorem sortD_mem {N : Nat} {ws : List Nat} {x : Nat} : x ∈ sortD N ws ↔ x < N ∧ x ∈ ws := by
  unfold sortD
  rw [List.mem_filter, List.mem_range, decide_eq_true_iff]
theorem rise_nat {a b : List Nat} (h1 : a.Pairwise (· < ·)) (h2 : b.Pairwise (· < ·)) (h : ∀ x, x ∈ a ↔ x ∈ b) : a = b := by
  have p : ∀ {l : List Nat}, l.Pairwise (· < ·) → (l.map fun (i : Nat) => (i : Int)).Pairwise (· < ·) := fun h => List.Pairwise.map _ (fun x y h => by omega) h
  have := rise_eq (p h1) (p h2) fun x => by
    constructor
    · intro hx
      obtain ⟨y, hy, rfl⟩ := List.mem_map.mp hx
      exact List.mem_map.mpr ⟨y, (h y).mp hy, rfl⟩
    · intro hx
      obtain ⟨y, hy, rfl⟩ := List.mem_map.mp hx
      exact List.mem_map.mpr ⟨y, (h y).mpr hy, rfl⟩
  have := congrArg (List.map Int.toNat) this
  rw [List.map_map, List.map_map] at this
  have e : ∀ l : List Nat, l.map (Int.toNat ∘ fun (i : Nat) => (i : Int)) = l := fun l => by
    conv => rhs; rw [← List.map_id l]
    exact List.map_congr_left fun x _ => by simp
  rw [e, e] at this
  exact this
theorem sortD_self {N : Nat} {ws : List Nat} (h : ws.Pairwise (· < ·)) (hl : ∀ x ∈ ws, x < N) : sortD N ws = ws := rise_nat (sortD_rise N ws) h fun x => by rw [sortD_mem]; exact ⟨fun z => z.2, fun z => ⟨hl x z, z⟩⟩
theorem sortset_is {N : Nat} {ns : List Nat} {ms : List Int} (h1 : ms.Pairwise (· < ·)) (h2 : ∀ i, i ∈ ms ↔ i ∈ ns.map fun (i : Nat) => (i : Int)) (h3 : ∀ x ∈ ns, x < N) : ms.map MV.int = natsM (sortD N ns) := by
  have : ms = (sortD N ns).map fun (i : Nat) => (i : Int) := by
    refine rise_eq h1 (List.Pairwise.map _ (fun x y h => by omega) (sortD_rise N ns)) fun x => ?_
    rw [h2]
    constructor
    · intro hx
      obtain ⟨y, hy, rfl⟩ := List.mem_map.mp hx
      exact List.mem_map.mpr ⟨y, sortD_mem.mpr ⟨h3 y hy, hy⟩, rfl⟩
    · intro hx
      obtain ⟨y, hy, rfl⟩ := List.mem_map.mp hx
      exact List.mem_map.mpr ⟨y, (sortD_mem.mp hy).2, rfl⟩
  rw [this, List.map_map]
  rfl
/-- a dict of ways, exactly -/
abbrev KF := Nat → Nat → Option Nat → Option (List Nat)
def DictE (s : MS) (lo d : Nat) (kvs : List (NestedKey × MV)) (f : KF) : Prop := ∀ p g c, (∃ ws l, f p g c = some ws ∧ lkD (keyM p g c) kvs = some (.loc l) ∧ lo ≤ l ∧ l ≠ d ∧ s[l]? = some (.lst (natsM ws))) ∨ (f p g c = none ∧ lkD (keyM p g c) kvs = none)
theorem DictE.mono {s s' : MS} {lo d : Nat} {kvs : List (NestedKey × MV)} {f : KF} (h : DictE s lo d kvs f) (m : Pre s s') : DictE s' lo d kvs f := fun p g c => by
  rcases h p g c with ⟨ws, l, e1, e2, e3, e4, e5⟩ | e
  · exact .inl ⟨ws, l, e1, e2, e3, e4, m.at_ e5⟩
  · exact .inr e
def putF (f : KF) (p g : Nat) (c : Option Nat) (ws : List Nat) : KF := fun p' g' c' => if (p', g', c') = (p, g, c) then some ws else f p' g' c'
theorem DictE.put {s : MS} {lo d : Nat} {kvs : List (NestedKey × MV)} {f : KF} (h : DictE s lo d kvs f) {p g : Nat} {c : Option Nat} {l : Nat} {ws : List Nat} (h1 : lo ≤ l) (h2 : l ≠ d) (h3 : s[l]? = some (.lst (natsM ws))) (o : MO) :
    DictE (s.set d o) lo d (putD (keyM p g c) (.loc l) kvs) (putF f p g c ws) := by
  intro p' g' c'
  rw [lk_put]
  unfold putF
  by_cases he : keyM p g c = keyM p' g' c'
  · obtain ⟨rfl, rfl, rfl⟩ := keyM_inj he
    rw [if_pos rfl, if_pos rfl]
    exact .inl ⟨ws, l, rfl, rfl, h1, h2, by rw [List.getElem?_set_ne (Ne.symm h2)]; exact h3⟩
  · rw [if_neg he]
    have hne : ¬ (p', g', c') = (p, g, c) := fun z => by
      cases z
      exact he rfl
    rw [if_neg hne]
    rcases h p' g' c' with ⟨ws', l', e1, e2, e3, e4, e5⟩ | e
    · exact .inl ⟨ws', l', e1, e2, e3, e4, by rw [List.getElem?_set_ne (Ne.symm e4)]; exact e5⟩
    · exact .inr e
theorem DictE.tab {s : MS} {lo d : Nat} {kvs : List (NestedKey × MV)} {f : KF} (h : DictE s lo d kvs f) : ∀ p g c, (∃ l, lkD (keyM p g c) kvs = some (.loc l) ∧ s[l]? = some (.lst (natsM ((f p g c).getD [])))) ∨ (lkD (keyM p g c) kvs = none ∧ (f p g c).getD [] = []) := fun p g c => by
  rcases h p g c with ⟨ws, l, e1, e2, e3, e4, e5⟩ | ⟨e1, e2⟩
  · exact .inl ⟨l, e2, by rw [e1]; exact e5⟩
  · exact .inr ⟨e2, by rw [e1]; rfl⟩
theorem DictE.fr {s : MS} {lo d n c : Nat} {kvs : List (NestedKey × MV)} {f : KF} {fs : List (Nat × MV)} (h : DictE s lo d kvs f) (hn : s[n]? = some (.ins c fs)) (h1 : lkM 42 fs = none) (h2 : lkM 45 fs = none) (h3 : lkM 30 fs = some (.loc d)) (hd : s[d]? = some (.dtp kvs)) : FrT lo s n := by
  refine FrT.of hn (fun k e => by rw [h1] at e; cases e) (fun k e => by rw [h2] at e; cases e) fun d' kvs' p g cm l e1 e2 e3 => ?_
  rw [h3] at e1
  cases e1
  rw [hd] at e2
  cases e2
  rcases h p g cm with ⟨ws, l', g1, g2, g3, _⟩ | ⟨_, g2⟩
  · rw [g2] at e3
    cases e3
    exact g3
  · rw [g2] at e3
    cases e3
/-- what rows tell -/
def rowF (N : Nat) (rows : List Row) : KF := fun p g c => (rows.find? fun r => decide (r.key = (p, g, c))).map fun r => sortD N r.ws
def toldW (N : Nat) (rows : List Row) : WF := fun p g c => (rowF N rows p g c).getD []
theorem rowF_snoc {N : Nat} {rows : List Row} {r : Row} (h : ∀ x ∈ rows, x.key ≠ r.key) : rowF N (rows ++ [r]) = putF (rowF N rows) r.p r.g r.c (sortD N r.ws) := by
  funext p g c
  unfold rowF putF
  rw [List.find?_append]
  by_cases he : (p, g, c) = (r.p, r.g, r.c)
  · rw [if_pos he]
    have : rows.find? (fun r => decide (r.key = (p, g, c))) = none := by
      rw [List.find?_eq_none]
      intro x hx
      have := h x hx
      rw [he]
      rw [decide_eq_true_iff]
      exact this
    rw [this]
    have : r.key = (p, g, c) := he.symm
    simp [this]
  · rw [if_neg he]
    have : ¬ r.key = (p, g, c) := fun z => he z.symm
    simp [this]
structure TS (s0 : MS) (n ln d : Nat) (s : MS) (kvs : List (NestedKey × MV)) (f : KF) : Prop where
  p : Pre s0 s
  an : s[n]? = some (.ins 101 [(25, .loc ln), (30, .loc d)])
  ad : s[d]? = some (.dtp kvs)
  kn : DictE s s0.length d kvs f
def spTold : MSp := fun vs s Q _ => ∃ (s0 : MS) (n ln m lo P : Nat) (L : List (Nat × Nat)) (rows : List Row), vs = [.loc n, .loc ln, .loc m] ∧ NewI s0 s n 101 ∧ LandR s0 ln P L ∧ LOk P L ∧ RowsAt s0 m lo rows ∧ rows.length ≤ 6000 ∧ RowsOk P L rows ∧ ∀ s', Pre s0 s' → DictR 101 s' n P L (toldW L.length rows) → FrT s0.length s' n → Q .non s'
theorem law_told {Γ : Prg} (h24 : Γ 24 0 = some spTabI) (h102 : Γ 101 102 = some spGood) : Law Γ d_Told_init spTold := by
  rintro _ s Q R ⟨s0, n, ln, m, lo, P, L, rows, rfl, ⟨hp, hn, hi⟩, hld, lk, hrs, hr6, rok, q⟩
  refine ⟨rfl, ?_⟩
  have hL := lk.l
  have hld0 : s0[ln]? = some (.ins 17 (landFs P L)) := hld
  show wpSs Γ b_Told_init (stM b_Told_init_N [.loc n, .loc ln, .loc m]) s _
  unfold b_Told_init
  rw [wpSs_cons]
  simp only [b_Told_init_N, stM, wpS, wpI, wpE, wpEs, callW, h24, List.length_cons, List.length_nil, List.map_cons, List.map_nil, List.cons_append, List.nil_append, List.replicate, Nat.sub_self, List.getElem?_cons_zero, List.getElem?_cons_succ]
  refine ⟨n, 101, .loc ln, rfl, hi, ?_⟩
  have p1 : Pre s0 (s.set n (.ins 101 [(25, .loc ln)])) := hp.set hn _
  have i1 : (s.set n (.ins 101 [(25, .loc ln)]))[n]? = some (.ins 101 [(25, .loc ln)]) := List.getElem?_set_self (lt_of_at hi)
  generalize s.set n (.ins 101 [(25, .loc ln)]) = s1 at p1 i1
  simp only []
  rw [wpSs_cons]
  have i2 : (s1 ++ [MO.dtp []])[n]? = some (.ins 101 [(25, .loc ln)]) := (Pre.add _).at_ i1
  have d2 : (s1 ++ [MO.dtp []])[s1.length]? = some (.dtp []) := at_end
  have p2 : Pre s0 (s1 ++ [MO.dtp []]) := p1.trans (Pre.add _)
  have hnd : n ≠ s1.length := by have := lt_of_at i1; omega
  have hd0 : s0.length ≤ s1.length := p1.len
  simp only [wpS, wpE, List.getElem?_cons_zero, if_true, setfW, i2, putM]
  refine ⟨by simp, ?_⟩
  generalize s1 ++ [MO.dtp []] = s2 at i2 d2 p2
  generalize s1.length = d at d2 hnd hd0
  have t3 : TS s0 n ln d (s2.set n (.ins 101 [(25, .loc ln), (30, .loc d)])) [] (rowF L.length (rows.take 0)) :=
    ⟨p2.set hn _, List.getElem?_set_self (lt_of_at i2), by rw [List.getElem?_set_ne hnd]; exact d2, fun p g c => .inr ⟨rfl, rfl⟩⟩
  have e0 : (if (25 : Nat) = 30 then [((30 : Nat), MV.loc d)] else (25, MV.loc ln) :: putM 30 (MV.loc d) []) = [(25, .loc ln), (30, .loc d)] := rfl
  show wpSs Γ _ _ (s2.set n (.ins 101 [(25, .loc ln), (30, .loc d)])) _
  generalize s2.set n (.ins 101 [(25, .loc ln), (30, .loc d)]) = s3 at t3
  rw [wpSs_cons]
  simp only [wpS, wpI, wpE, List.getElem?_cons_succ, List.getElem?_cons_zero, enmIt, t3.p.at_ hrs.1]
  rw [enm_map]
  refine forP (t := .obj m (rows.map rowM)) (fun p : Row × Nat => MV.tup [.int (p.2 : Nat), rowM p.1]) (fun i σ s' => ∃ (a b c e f g : Option MV) (kvs : List (NestedKey × MV)), σ = [some (.loc n), some (.loc ln), some (.loc m), a, b, c, e, f, g] ∧ TS s0 n ln d s' kvs (rowF L.length (rows.take i)) ∧ kvs.length ≤ i) rows.zipIdx
    (fun _ _ _ _ h' => by obtain ⟨_, _, _, _, _, _, _, _, t, _⟩ := h'; exact t.p.at_ hrs.1) ?_ ?_ ⟨_, _, _, _, _, _, [], rfl, t3, Nat.zero_le _⟩
  · rintro i ⟨r, j⟩ σ s4 hx ⟨a, b, c, e, f, g, kvs, rfl, t4, hkl⟩ k hk
    obtain ⟨hx1, hx2⟩ := zipIdx_at hx
    simp only at hx1 hx2
    subst hx2
    have hil := (List.getElem?_eq_some_iff.mp hx1).1
    have hrm := List.mem_of_getElem? hx1
    have rg := rok.g r hrm
    obtain ⟨w1, w2, w3⟩ := hrs.2 r hrm
    simp only [tgW, tgsW, List.set_cons_succ, List.set_cons_zero]
    refine ⟨trivial, ?_⟩
    rw [wpSs_cons]
    simp only [wpS, wpE, List.getElem?_cons_succ, List.getElem?_cons_zero, tgW, tgsW, rowM, List.set_cons_succ, List.set_cons_zero]
    refine ⟨trivial, ?_⟩
    rw [wpSs_cons]
    have hnew : ∀ x ∈ rows.take j, x.key ≠ r.key := fun x hx he => by
      have h1 : (rows.map Row.key)[j]? = some r.key := by rw [List.getElem?_map, hx1]; rfl
      refine take_not rok.n h1 ?_
      rw [← List.map_take, ← he]
      exact List.mem_map_of_mem hx
    have hno : lkD (keyM r.p r.g r.c) kvs = none := by
      rcases t4.kn r.p r.g r.c with ⟨ws, l, e1, _⟩ | ⟨_, z⟩
      · exfalso
        unfold rowF at e1
        cases hf : (rows.take j).find? (fun x => decide (x.key = (r.p, r.g, r.c))) with
        | none => rw [hf] at e1; cases e1
        | some x =>
          have hz : decide (x.key = (r.p, r.g, r.c)) = true := List.find?_some (p := fun x : Row => decide (x.key = (r.p, r.g, r.c))) hf
          exact hnew x (List.mem_of_find?_eq_some hf) (of_decide_eq_true hz)
      · exact z
    simp only [wpS, wpE, wpEs, List.getElem?_cons_succ, List.getElem?_cons_zero, fldW, t4.an, lkM, cmpW, inW, wpSs_nil]
    refine ⟨(by show 3 ≤ sizeLine; decide), ?_⟩
    simp [lkM, t4.ad, key_of_came, key_depth, hno, methW, t4.an, mr_Told_is_good, callW, h102, dflt_nil]
    refine ⟨n, ln, P, L, r, _, rfl, t4.an, rfl, t4.p.at_ hld0, lk, rg, t4.p.at_ w3, fun s5 p5 => ?_⟩
    simp only [Bool.not_true]
    rw [wpSs_cons]
    have w5 := (t4.p.trans p5).at_ w3
    simp only [wpS, wpE, wpEs, List.getElem?_cons_succ, List.getElem?_cons_zero, bfW, w5]
    rw [intsOf_nats]
    have hrl := rg.l
    refine ⟨by simp; omega, fun ms h1 h2 => ?_⟩
    obtain ⟨ks, hks⟩ : ∃ ks, ks = sortD L.length r.ws := ⟨_, rfl⟩
    have e1 : ms.map MV.int = natsM ks := by rw [hks]; exact sortset_is h1 h2 fun x hx => out_mem (rg.ws x hx)
    rw [e1]
    have p45 : Pre s4 (s5 ++ [MO.lst (natsM ks)]) := p5.trans (Pre.add _)
    have x6 : (s5 ++ [MO.lst (natsM ks)])[s5.length]? = some (.lst (natsM ks)) := at_end
    have hlo : s0.length ≤ s5.length := (t4.p.trans p5).len
    have hld5 : s5.length ≠ d := by have := lt_of_at (p5.at_ t4.ad); omega
    generalize s5 ++ [MO.lst (natsM ks)] = s6 at p45 x6
    generalize s5.length = l at x6 hlo hld5
    have n6 := p45.at_ t4.an
    have d6 := p45.at_ t4.ad
    simp [fldW, n6, lkM, setW, d6, key_of_came, key_depth, wpSs_nil]
    refine ⟨(by show 3 ≤ sizeLine; decide), by simp [sizeLine]; omega, hk _ _ ⟨_, _, _, _, _, _, _, rfl, ⟨(t4.p.trans p45).set hd0 _, by rw [List.getElem?_set_ne (Ne.symm hnd)]; exact n6, List.getElem?_set_self (lt_of_at d6), ?_⟩, ?_⟩⟩
    · have := (t4.kn.mono p45).put (p := r.p) (g := r.g) (c := r.c) hlo hld5 x6 (.dtp (putD (keyM r.p r.g r.c) (.loc l) kvs))
      have e9 : rowF L.length (rows.take (j + 1)) = putF (rowF L.length (rows.take j)) r.p r.g r.c ks := by
        rw [List.take_add_one, hx1, hks]
        exact rowF_snoc hnew
      rw [e9]
      exact this
    · rw [putD_new hno]
      simp
      omega
  · rintro σ s4 ⟨a, b, c, e, f, g, kvs, rfl, t4, hkl⟩
    simp only [Still.out, wpSs_nil]
    have hzl : rows.zipIdx.length = rows.length := by simp
    rw [hzl, List.take_length] at t4
    exact q s4 t4.p ⟨⟨_, ln, d, kvs, t4.an, rfl, t4.p.at_ hld0, rfl, t4.ad, t4.kn.tab⟩, lk, rfl⟩ (t4.kn.fr t4.an (by simp [lkM]) (by simp [lkM]) rfl t4.ad)

theorem law_toldways {Γ : Prg} : Law Γ d_Told_ways (spDictWays 101) := by
  rintro _ s Q R ⟨n, P, p, g, L, c, wf, rfl, ⟨⟨fs, ln, d, kvs, h1, h2, h3, h4, h5, h6⟩, _, _⟩, q⟩
  refine ⟨rfl, ?_⟩
  have hd := lt_of_at h5
  have e5 : (s ++ [.lst []])[d]? = some (.dtp kvs) := (Pre.add _).at_ h5
  simp [d_Told_ways, b_Told_ways, b_Told_ways_N, stM, wpSs, wpS, wpE, wpEs, fldW, h1, h4, kindM, h5, bmK, bmW, e5, key_of_came, key_depth, bfW, seqOf]
  refine ⟨by decide, ?_⟩
  rcases h6 p g c with ⟨l, h7, h8⟩ | ⟨h7, h8⟩
  · have e8 : (s ++ [.lst []])[l]? = some (.lst (natsM (wf p g c))) := (Pre.add _).at_ h8
    simp [h7, e8]
    refine q _ _ ⟨Pre.add _, by omega, ?_⟩
    rw [List.getElem?_append_right (by omega)]
    simp
  · simp [h7]
    refine q _ _ ⟨Pre.add _, by omega, ?_⟩
    rw [List.getElem?_append_right (by omega)]
    simp [h8, natsM]
end Ly
namespace Ly
open PySem L2 TL
open PyProof.Rows hiding St
/-! ### texts: words, rows -/
def numS (n : Nat) : Str := Str.ofString (toString ((n : Nat) : Int))
def rowT (ws : List Str) : Str := Txt.join " " ws
def textT (rows : List (List Str)) : Str := Txt.join "\n" (rows.map rowT)
theorem tl_blank : tl (" " : Str) = [32] := by decide +kernel
theorem tl_nl : tl ("\n" : Str) = [10] := by decide +kernel
theorem tl_numS (n : Nat) : tl (numS n) = numL n := tl_num n
theorem numS_inj {m n : Nat} (h : numS m = numS n) : m = n := numL_inj (by rw [← tl_numS, ← tl_numS, h])
theorem numS_len {n k : Nat} (hk : 0 < k) (h : n < 10 ^ k) : (numS n).length ≤ k := by
  rw [len_tl, tl_numS]
  exact numL_len hk h
theorem joinL_mem {S : List Nat} {x : Nat} : ∀ {ps : List (List Nat)}, x ∈ joinL S ps → x ∈ S ∨ ∃ p ∈ ps, x ∈ p
  | [], h => nomatch h
  | [p], h => .inr ⟨p, List.mem_cons_self, h⟩
  | p :: q :: r, h => by
    rcases List.mem_append.mp (show x ∈ p ++ (S ++ joinL S (q :: r)) from h) with z | z
    · exact .inr ⟨p, List.mem_cons_self, z⟩
    · rcases List.mem_append.mp z with z | z
      · exact .inl z
      · rcases joinL_mem z with z | ⟨y, hy, z⟩
        · exact .inl z
        · exact .inr ⟨y, List.mem_cons_of_mem _ hy, z⟩
theorem joinL_len {S : List Nat} : ∀ {ps : List (List Nat)}, (joinL S ps).length ≤ (ps.map List.length).sum + ps.length * S.length
  | [] => by simp [joinL]
  | [p] => by simp [joinL]
  | p :: q :: r => by
    have := joinL_len (S := S) (ps := q :: r)
    show (p ++ (S ++ joinL S (q :: r))).length ≤ _
    simp only [List.length_append, List.map_cons, List.sum_cons, List.length_cons, Nat.add_mul, Nat.one_mul] at this ⊢
    omega
theorem tl_Join (y : Str) (ps : List Str) : tl (Txt.join y ps) = joinL (tl y) (ps.map tl) := by rw [join_eq, tl_join]
theorem join_len (y : Str) (ps : List Str) : (Txt.join y ps).length ≤ (ps.map (·.length)).sum + ps.length * y.length := by
  rw [len_tl, tl_Join]
  have := joinL_len (S := tl y) (ps := ps.map tl)
  rw [List.map_map, List.length_map] at this
  rw [len_tl y]
  have e : ps.map (List.length ∘ tl) = ps.map (·.length) := List.map_congr_left fun x _ => (len_tl x).symm
  rw [e] at this
  exact this
theorem split_row {ws : List Str} (h0 : ws ≠ []) (h : ∀ w ∈ ws, 32 ∉ tl w) : Txt.split (rowT ws) " " = ws := split_join tl_blank (by decide +kernel) h0 h
theorem row_nl {ws : List Str} (h : ∀ w ∈ ws, 10 ∉ tl w) : 10 ∉ tl (rowT ws) := by
  unfold rowT
  rw [tl_Join, tl_blank]
  intro z
  rcases joinL_mem z with z | ⟨p, hp, z⟩
  · simp at z
  · obtain ⟨w, hw, rfl⟩ := List.mem_map.mp hp
    exact h w hw z
theorem split_text {rows : List (List Str)} (h0 : rows ≠ []) (h : ∀ ws ∈ rows, ∀ w ∈ ws, 10 ∉ tl w) : Txt.split (textT rows) "\n" = rows.map rowT := by
  refine split_join tl_nl (by decide +kernel) (by simpa using h0) fun p hp => ?_
  obtain ⟨ws, hws, rfl⟩ := List.mem_map.mp hp
  exact row_nl (h ws hws)
theorem joinL_snoc {S x : List Nat} : ∀ {ps : List (List Nat)}, ps ≠ [] → joinL S (ps ++ [x]) = joinL S ps ++ (S ++ x)
  | [], h => absurd rfl h
  | [p], _ => rfl
  | p :: q :: r, _ => by
    show p ++ (S ++ joinL S (q :: r ++ [x])) = p ++ (S ++ joinL S (q :: r)) ++ (S ++ x)
    rw [joinL_snoc (by simp)]
    simp
theorem text_snoc {rows : List (List Str)} {ws : List Str} (h : rows ≠ []) : textT (rows ++ [ws]) = textT rows ++ ("\n" ++ rowT ws) := by
  unfold textT
  apply ext_tl
  rw [tl_append, tl_append, tl_Join, tl_Join, List.map_append, List.map_append]
  exact joinL_snoc (by simpa using h)
theorem num_good {n : Nat} : 32 ∉ tl (numS n) ∧ 10 ∉ tl (numS n) := by
  rw [tl_numS]
  exact ⟨numL_free (.inl (by decide)), numL_free (.inl (by decide))⟩
/-- int(str(n)) -/
theorem int_numS {n : Nat} (h : n < 10 ^ 60) : intText? (numS n) = some ((n : Nat) : Int) := int_num (Nat.le_trans (numL_len (by decide) h) (by decide))
/-- the sum of lengths, bounded -/
theorem sum_le {ys : List Str} {k : Nat} (h : ∀ y ∈ ys, y.length ≤ k) : (ys.map (·.length)).sum ≤ ys.length * k := by
  induction ys with
  | nil => simp
  | cons y r ih =>
    have h1 := h y List.mem_cons_self
    have h2 := ih fun z hz => h z (List.mem_cons_of_mem _ hz)
    simp only [List.map_cons, List.sum_cons, List.length_cons, Nat.add_mul, Nat.one_mul]
    omega
/-- what str tells of a word -/
def wtxt : MV → Str
  | .str y => y
  | .int i => Str.ofString (toString i)
  | _ => Str.empty
def WordV (v : MV) : Prop := (∃ y, v = .str y) ∨ ∃ i : Int, v = .int i ∧ i.natAbs.log2 < 1920
theorem str_word {v : MV} (h : WordV v) {s : MS} {Q : QV} (q : Q (.str (wtxt v)) s) : bfW .str [v] s Q := by
  rcases h with ⟨y, rfl⟩ | ⟨i, rfl, hi⟩
  · exact q
  · exact ⟨hi, q⟩
theorem word_nat {n : Nat} (h : n < 2 ^ 200) : WordV (.int ((n : Nat) : Int)) := by
  refine .inr ⟨_, rfl, ?_⟩
  rw [Int.natAbs_natCast]
  by_cases h0 : n = 0
  · subst h0
    decide
  · have := (Nat.log2_lt h0).mpr h
    omega
def spRowText : MSp := fun vs s Q _ => ∃ (m : Nat) (ws : List MV), vs = [.loc m] ∧ s[m]? = some (.lst ws) ∧ (∀ w ∈ ws, WordV w) ∧ ws.length ≤ 10000 ∧ (∀ w ∈ ws, (wtxt w).length ≤ 100) ∧ ∀ s', Pre s s' → Q (.str (rowT (ws.map wtxt))) s'
theorem law_rowtext {Γ : Prg} : Law Γ d_row_text spRowText := by
  rintro _ s Q R ⟨m, ws, rfl, h1, hw, hl, hlen, q⟩
  refine ⟨rfl, ?_⟩
  show wpSs Γ b_row_text (stM b_row_text_N [.loc m]) s _
  unfold b_row_text
  rw [wpSs_cons]
  simp only [wpS]
  unfold wpE
  simp only [wpE, kindM, bmK, wpEs, b_row_text_N, stM, wpI, List.length_cons, List.length_nil, List.map_cons, List.map_nil, List.cons_append, List.nil_append, List.replicate, Nat.sub_self, List.getElem?_cons_zero, List.getElem?_cons_succ, seqIt, h1]
  refine ⟨trivial, ?_⟩
  have hm : ws = ws.map id := by simp
  have hlt := lt_of_at h1
  have key := lcP (s := s) (tg := tgW (.nm 1)) (tt := fun σ1 s2 k => wpT Γ .no σ1 s2 k) (te := fun σ1 s2 k => wpE Γ (.bf .str (.cons (.var 1) .nil)) σ1 s2 k (fun _ _ => False)) (t := .obj m ws) (σ := wipeM [some (.loc m), none] [1]) (Q := fun s2 => bmW .join (.str " ") [.loc s.length] s2 fun v s' => Q v s')
    (id : MV → MV) (fun w => some (.str (wtxt w))) ws (by omega) (fun acc => (Pre.add _).at_ h1) ?_ ?_
  · rw [List.map_id] at key
    simp only [wpT, wpE, wpEs, Still.out] at key ⊢
    exact key
  · intro w hwm acc k ha hk
    simp only [id, wipeM, tgW, wpT, wpE, wpEs, List.set_cons_zero, List.set_cons_succ, List.getElem?_cons_zero, List.getElem?_cons_succ, if_true]
    refine str_word (hw w hwm) ?_
    rw [at_end]
    refine ⟨ha, ?_⟩
    rw [List.set_append_right _ _ (Nat.le_refl _)]
    simpa using hk
  · rw [List.filterMap_eq_map']
    have e1 : ws.map (fun w => MV.str (wtxt w)) = (ws.map wtxt).map MV.str := by rw [List.map_map]; rfl
    rw [e1]
    simp only [bmW, at_end, strsOf_map]
    refine ⟨?_, q _ (Pre.add _)⟩
    have := sum_le (ys := ws.map wtxt) (k := 100) fun y hy => by
      obtain ⟨w, hw, rfl⟩ := List.mem_map.mp hy
      exact hlen w hw
    rw [List.length_map] at this ⊢
    have hb : (" " : Str).length = 1 := by rw [len_tl, tl_blank]; rfl
    rw [hb]
    omega
end Ly
namespace Ly
open PySem L2 TL
open PyProof.Rows hiding St
def cS : Option Nat → Str
  | none => "-"
  | some i => numS i
def cM : Option Nat → MV
  | none => .str "-"
  | some i => .int (i : Nat)
def wayT (p g : Nat) (c : Option Nat) (ws : List Nat) : List Str := "way" :: numS p :: numS g :: cS c :: ws.map numS
def wayM (p g : Nat) (c : Option Nat) (ws : List Nat) : List MV := [.str "way", .int (p : Nat), .int (g : Nat), cM c] ++ natsM ws
theorem wayM_txt (p g : Nat) (c : Option Nat) (ws : List Nat) : (wayM p g c ws).map wtxt = wayT p g c ws := by
  unfold wayM wayT natsM
  rw [List.map_append, List.map_map]
  cases c <;> rfl
def wayRows (L : List (Nat × Nat)) (wf : WF) (p g : Nat) : List (List Str) := (comes L p).filterMap fun c => if wf p g c = [] then none else some (wayT p g c (wf p g c))
def tabT (P : Nat) (L : List (Nat × Nat)) (wf : WF) : List (List Str) := (["places", numS P] : List Str) :: ((L.map fun q => (["lane", numS q.1, numS q.2] : List Str)) ++ (List.range P).flatMap fun p => (List.range P).flatMap fun g => if p = g then [] else wayRows L wf p g)
theorem numS_len2 {n : Nat} (h : n < 100) : (numS n).length ≤ 100 := Nat.le_trans (numS_len (k := 2) (by decide) h) (by decide)
theorem lit_len (x : String) (h : x.length ≤ 100 := by decide) : (Str.ofString x).length ≤ 100 := by
  rw [len_tl, tl_ofString, List.length_map, String.length_toList]
  exact h
theorem word_lt {n : Nat} (h : n < 100) : WordV (.int ((n : Nat) : Int)) ∧ (wtxt (.int ((n : Nat) : Int))).length ≤ 100 := ⟨word_nat (Nat.lt_of_lt_of_le h (by decide)), numS_len2 h⟩
theorem word_lit (x : String) (h : x.length ≤ 100 := by decide) : WordV (.str x) ∧ (wtxt (.str x)).length ≤ 100 := ⟨.inl ⟨_, rfl⟩, lit_len x h⟩
theorem way_words {p g : Nat} {c : Option Nat} {ws : List Nat} (hp : p < 100) (hg : g < 100) (hc : ∀ i, c = some i → i < 100) (hw : ∀ x ∈ ws, x < 100) : ∀ w ∈ wayM p g c ws, WordV w ∧ (wtxt w).length ≤ 100 := by
  intro w hwm
  unfold wayM at hwm
  rcases List.mem_append.mp hwm with z | z
  · simp only [List.mem_cons, List.not_mem_nil, or_false] at z
    rcases z with rfl | rfl | rfl | rfl
    · exact word_lit "way"
    · exact word_lt hp
    · exact word_lt hg
    · cases c with
      | none => exact word_lit "-"
      | some i => exact word_lt (hc i rfl)
  · obtain ⟨x, hx, rfl⟩ := List.mem_map.mp z
    exact word_lt (hw x hx)
theorem rowtext_call {Γ : Prg} (h103 : Γ 0 103 = some spRowText) {s : MS} {m : Nat} {ws : List MV} (h1 : s[m]? = some (.lst ws)) (hw : ∀ w ∈ ws, WordV w ∧ (wtxt w).length ≤ 100) (hl : ws.length ≤ 10000) {Q : QV} {R : QX} (q : ∀ s', Pre s s' → Q (.str (rowT (ws.map wtxt))) s') :
    callW Γ 0 103 fun sp => sp [.loc m] s Q R := by
  simp only [callW, h103, dflt_nil]
  exact ⟨m, ws, rfl, h1, fun w z => (hw w z).1, hl, fun w z => (hw w z).2, q⟩
/-- if ways != []: rows.append(row_text(["way", place, goal, c] + ways)) -/
theorem way_step {Γ : Prg} (h103 : Γ 0 103 = some spRowText) {σ : MEnv} {s : MS} {D : MD} {m wl p g : Nat} {c : Option Nat} {ws : List Nat} {xs : List Str} {ce : Ly.E} (h1 : σ[1]? = some (some (.int (p : Nat)))) (h2 : σ[2]? = some (some (.int (g : Nat)))) (h3 : σ[3]? = some (some (.loc m))) (h4 : σ[4]? = some (some (.loc wl)))
    (hce : ∀ (s : MS) (Q : QV) (R : QX), Q (cM c) s → wpE Γ ce σ s Q R) (hx : s[m]? = some (.lst (xs.map .str))) (hw : s[wl]? = some (.lst (natsM ws))) (hxl : xs.length < 10000) (hp : p < 100) (hg : g < 100) (hc : ∀ i, c = some i → i < 100) (hws : ∀ x ∈ ws, x < 100) (hwl : ws.length ≤ 100)
    (q : ∀ s', (∀ s0, Pre s0 s → s0.length ≤ m → Pre s0 s') → s'[m]? = some (.lst ((xs ++ if ws = [] then [] else [rowT (wayT p g c ws)]).map .str)) → (∀ i o, i ≠ m → s[i]? = some o → s'[i]? = some o) → D.nx σ s') :
    wpS Γ (.ife (.cmp .ne (.var 4) (.lst .nil)) (.cons (.ex (.bm .append (.var 3) (.cons (.call 103 (.cons (.bin .add (.lst (.cons (.str "way") (.cons (.var 1) (.cons (.var 2) (.cons ce .nil))))) (.var 4)) .nil)) .nil))) .nil) .nil) σ s D := by
  simp only [wpS, wpE, wpEs, h4, cmpW]
  refine ⟨sz0, ?_⟩
  have p1 : Pre s (s ++ [MO.lst []]) := Pre.add _
  refine ne_nil (p1.at_ hw) at_end ?_
  have hx1 := p1.at_ hx
  have hw1 := p1.at_ hw
  generalize s ++ [MO.lst []] = s1 at p1 hx1 hw1
  by_cases hn : ws = []
  · simp only [hn, decide_true, Bool.not_true, wpSs_nil]
    refine q s1 (fun s0 p0 _ => p0.trans p1) ?_ fun i o _ e => p1.at_ e
    rw [hx1, if_pos hn, List.append_nil]
  · simp only [hn, decide_false, Bool.not_false]
    rw [wpSs_cons]
    simp only [wpS, wpE, wpEs, h3, kindM, hx1, bmK]
    refine ⟨trivial, ?_⟩
    simp only [h1, h2, callW, h103, dflt_nil, List.append_nil]
    refine hce _ _ _ ?_
    simp only [h4]
    refine ⟨sz4, ?_⟩
    have p2 : Pre s1 (s1 ++ [MO.lst [.str "way", .int (p : Nat), .int (g : Nat), cM c]]) := Pre.add _
    have x2 : (s1 ++ [MO.lst [.str "way", .int (p : Nat), .int (g : Nat), cM c]])[s1.length]? = some (.lst [.str "way", .int (p : Nat), .int (g : Nat), cM c]) := at_end
    have hw2 := p2.at_ hw1
    generalize s1 ++ [MO.lst [.str "way", .int (p : Nat), .int (g : Nat), cM c]] = s2 at p2 x2 hw2
    simp only [binW, x2, hw2]
    refine ⟨by rw [natsM_len]; simp [sizeLine]; omega, ?_⟩
    have p3 : Pre s2 (s2 ++ [MO.lst (wayM p g c ws)]) := Pre.add _
    have x3 : (s2 ++ [MO.lst (wayM p g c ws)])[s2.length]? = some (.lst (wayM p g c ws)) := at_end
    have hww := way_words hp hg hc hws
    refine ⟨s2.length, wayM p g c ws, rfl, x3, fun w z => (hww w z).1, (by unfold wayM; rw [List.length_append, natsM_len]; simp; omega), fun w z => (hww w z).2, fun s4 p4 => ?_⟩
    have pp := ((p1.trans p2).trans p3).trans p4
    have x4 := pp.at_ hx
    simp only [bmW, x4, wpSs_nil]
    refine ⟨by rw [List.length_map]; simp [sizeLine]; omega, q _ (fun s0 p0 hm => (p0.trans pp).set hm _) ?_ fun i o hi e => ?_⟩
    · rw [List.getElem?_set_self (lt_of_at x4), if_neg hn, wayM_txt]
      simp
    · rw [List.getElem?_set_ne (Ne.symm hi)]
      exact pp.at_ e
/-- what is needed of a table's ways: lanes, not too many -/
structure TOk (P : Nat) (L : List (Nat × Nat)) (wf : WF) : Prop where
  l : LOk P L
  w : ∀ p g c, p < P → g < P → ∀ x ∈ wf p g c, x < L.length
  f : ∀ p g c, p < P → g < P → (wf p g c).length ≤ 40
theorem rise_len {N : Nat} {ws : List Nat} (h : ws.Pairwise (· < ·)) (hl : ∀ x ∈ ws, x < N) : ws.length ≤ N := nodup_le N ws (h.imp fun h => Nat.ne_of_lt h) hl
theorem WOk.t {P : Nat} {L : List (Nat × Nat)} {wf : WF} (h : WOk P L wf) : TOk P L wf :=
  ⟨h.l, fun p g c hp hg x hx => out_mem (h.o p g c hp hg x hx), fun p g c hp hg => Nat.le_trans (rise_len (h.r p g c) fun x hx => out_mem (h.o p g c hp hg x hx)) h.l.l⟩
def spWayRows : MSp := fun vs s Q _ => ∃ (n p g P : Nat) (L : List (Nat × Nat)) (wf : WF), vs = [.loc n, .int (p : Nat), .int (g : Nat)] ∧ TabR s n P L wf ∧ TOk P L wf ∧ p < P ∧ g < P ∧ ∀ s' m, NewL s s' m (((wayRows L wf p g).map rowT).map .str) → Q (.loc m) s'
def wayTo (L : List (Nat × Nat)) (wf : WF) (p g k : Nat) : List (List Str) := ((comes L p).take k).filterMap fun c => if wf p g c = [] then none else some (wayT p g c (wf p g c))
theorem wayTo_succ {L : List (Nat × Nat)} {wf : WF} {p g k : Nat} {c : Option Nat} (h : (comes L p)[k]? = some c) : wayTo L wf p g (k + 1) = wayTo L wf p g k ++ if wf p g c = [] then [] else [wayT p g c (wf p g c)] := by
  unfold wayTo
  rw [List.take_add_one, h, List.filterMap_append]
  congr 1
  by_cases hn : wf p g c = [] <;> simp [hn]
theorem wayTo_len {L : List (Nat × Nat)} {wf : WF} {p g k : Nat} : (wayTo L wf p g k).length ≤ k := by
  unfold wayTo
  refine Nat.le_trans (List.length_filterMap_le _ _) ?_
  rw [List.length_take]
  exact Nat.min_le_left _ _
theorem law_wayrows {Γ : Prg} (hw : HasWays Γ) (hl : HasLand Γ) (h103 : Γ 0 103 = some spRowText) : Law Γ d_way_rows spWayRows := by
  rintro _ s Q R ⟨n, p, g, P, L, wf, rfl, h, tk, hp, hg, q⟩
  refine ⟨rfl, ?_⟩
  have hP := tk.l.p2
  have hL := tk.l.l
  obtain ⟨c0, fs0, ln, t1, t2, t3⟩ := h.land
  show wpSs Γ b_way_rows (stM b_way_rows_N [.loc n, .int (p : Nat), .int (g : Nat)]) s _
  unfold b_way_rows
  rw [wpSs_cons]
  simp only [b_way_rows_N, stM, wpS, wpE, wpEs, tgW, List.length_cons, List.length_nil, List.map_cons, List.map_nil, List.cons_append, List.nil_append, List.replicate, Nat.sub_self, List.getElem?_cons_zero, List.getElem?_cons_succ, List.set_cons_zero, List.set_cons_succ]
  refine ⟨sz0, ?_⟩
  have p1 : Pre s (s ++ [MO.lst []]) := Pre.add _
  have x1 : (s ++ [MO.lst []])[s.length]? = some (.lst (((wayTo L wf p g 0).map rowT).map .str)) := at_end
  generalize s ++ [MO.lst []] = s1 at p1 x1
  rw [wpSs_cons]
  simp only [wpS, wpE, wpEs, List.getElem?_cons_zero, List.getElem?_cons_succ]
  refine ways_call hw (h.mono p1) hp hg none fun s2 m2 n2 => ?_
  obtain ⟨p2, l2, x2⟩ := n2
  simp only [tgW, List.set_cons_zero, List.set_cons_succ]
  rw [wpSs_cons]
  have hb : ∀ c : Option Nat, c ∈ comes L p → ∀ i, c = some i → i < 100 := fun c hc i e => by
    subst e
    have := into_mem (comes_mem hc)
    omega
  refine way_step h103 (c := none) rfl rfl rfl rfl (fun s Q R hq => by simp only [wpE]; exact hq) (p2.at_ x1) x2 (by rw [List.length_map]; have := wayTo_len (L := L) (wf := wf) (p := p) (g := g) (k := 0); omega) (by omega) (by omega) (hb none List.mem_cons_self) (fun x hx => by have := tk.w p g none hp hg x hx; omega) (by have := tk.f p g none hp hg; omega) fun s3 k3 x3 e3 => ?_
  have p3 := k3 s (p1.trans p2) (Nat.le_refl _)
  have x3' : s3[s.length]? = some (.lst (((wayTo L wf p g 1).map rowT).map .str)) := by
    rw [x3, wayTo_succ (show (comes L p)[0]? = some none from rfl)]
    by_cases hn : wf p g none = [] <;> simp [hn]
  clear k3 x3
  simp only []
  rw [wpSs_cons]
  have t1' := p3.at_ t1
  simp only [wpS, wpI, wpE, wpEs, List.getElem?_cons_zero, List.getElem?_cons_succ, fldW, t1', t2]
  refine into_call hl (t3.mono p3) hL fun s4 m4 n4 => ?_
  obtain ⟨p4, l4, x4⟩ := n4
  simp only [seqIt, x4]
  have hne : s.length ≠ m4 := by have := lt_of_at x3'; omega
  refine forP (t := .obj m4 (natsM (intoL L p))) (fun i : Nat => MV.int (i : Nat)) (fun i σ s' => ∃ (a b : Option MV), σ = [some (.loc n), some (.int (p : Nat)), some (.int (g : Nat)), some (.loc s.length), a, b] ∧ Pre s s' ∧ s'[m4]? = some (.lst (natsM (intoL L p))) ∧ s'[s.length]? = some (.lst (((wayTo L wf p g (i + 1)).map rowT).map .str))) (intoL L p)
    (fun _ _ _ _ h' => by obtain ⟨_, _, _, _, z, _⟩ := h'; exact z) ?_ ?_ ⟨_, _, rfl, p3.trans p4, x4, p4.at_ x3'⟩
  · rintro i x σ s5 hx ⟨a, b, rfl, p5, x5, y5⟩ k hk
    have hcm : (comes L p)[i + 1]? = some (some x) := by
      unfold comes
      rw [List.getElem?_cons_succ, List.getElem?_map, hx]
      rfl
    simp only [tgW, List.set_cons_zero, List.set_cons_succ]
    rw [wpSs_cons]
    simp only [wpS, wpE, wpEs, List.getElem?_cons_zero, List.getElem?_cons_succ]
    refine ways_call hw (h.mono p5) hp hg (some x) fun s6 m6 n6 => ?_
    obtain ⟨p6, l6, x6⟩ := n6
    simp only [tgW, List.set_cons_zero, List.set_cons_succ]
    rw [wpSs_cons]
    have hil := (List.getElem?_eq_some_iff.mp hx).1
    have hin : (intoL L p).length ≤ L.length := by
      unfold intoL
      have := List.length_filter_le (fun i => decide ((L[i]?.map (·.2)) = some p)) (List.range L.length)
      simpa using this
    refine way_step h103 (c := some x) rfl rfl rfl rfl (fun s Q R hq => by simp only [wpE, List.getElem?_cons_zero, List.getElem?_cons_succ]; exact hq) (p6.at_ y5) x6 (by rw [List.length_map]; have := wayTo_len (L := L) (wf := wf) (p := p) (g := g) (k := i + 1); omega) (by omega) (by omega) (hb _ (List.mem_of_getElem? hcm)) (fun y hy => by have := tk.w p g _ hp hg y hy; omega) (by have := tk.f p g (some x) hp hg; omega) fun s7 k7 x7 e7 => ?_
    simp only [wpSs_nil]
    refine hk _ _ ⟨_, _, rfl, k7 s (p5.trans p6) (Nat.le_refl _), e7 _ _ (Ne.symm hne) (p6.at_ x5), ?_⟩
    rw [x7, wayTo_succ hcm]
    by_cases hn : wf p g (some x) = [] <;> simp [hn]
  · rintro σ s5 ⟨a, b, rfl, p5, x5, y5⟩
    simp only [Still.out]
    rw [wpSs_cons]
    simp only [wpS, wpE, List.getElem?_cons_zero, List.getElem?_cons_succ]
    refine q s5 _ ⟨p5, Nat.le_refl _, ?_⟩
    rw [y5]
    have : wayTo L wf p g ((intoL L p).length + 1) = wayRows L wf p g := by
      unfold wayTo wayRows comes
      rw [List.take_of_length_le (by simp)]
    rw [this]
end Ly
namespace Ly
open PySem L2 TL
open PyProof.Rows hiding St
def GoodW (w : Str) : Prop := w.length ≤ 10 ∧ 32 ∉ tl w ∧ 10 ∉ tl w
theorem good_num {n : Nat} (h : n < 100) : GoodW (numS n) := ⟨Nat.le_trans (numS_len (k := 2) (by decide) h) (by decide), num_good.1, num_good.2⟩
theorem good_lit {x : String} (h : decide (x.length ≤ 10 ∧ 32 ∉ x.toList.map Char.toNat ∧ 10 ∉ x.toList.map Char.toNat) = true) : GoodW (Str.ofString x) := by
  have h := of_decide_eq_true h
  refine ⟨?_, ?_, ?_⟩
  · rw [len_tl, tl_ofString, List.length_map, String.length_toList]
    exact h.1
  · rw [tl_ofString]
    exact h.2.1
  · rw [tl_ofString]
    exact h.2.2
theorem way_good {P : Nat} {L : List (Nat × Nat)} {wf : WF} (tk : TOk P L wf) {p g : Nat} {c : Option Nat} (hp : p < P) (hg : g < P) (hc : c ∈ comes L p) : ∀ w ∈ wayT p g c (wf p g c), GoodW w := by
  have hP := tk.l.p2
  have hL := tk.l.l
  intro w hw
  unfold wayT at hw
  simp only [List.mem_cons] at hw
  rcases hw with rfl | rfl | rfl | rfl | hw
  · exact good_lit (by decide +kernel)
  · exact good_num (by omega)
  · exact good_num (by omega)
  · cases c with
    | none => exact good_lit (by decide +kernel)
    | some i =>
      have := into_mem (comes_mem hc)
      exact good_num (by omega)
  · obtain ⟨x, hx, rfl⟩ := List.mem_map.mp hw
    have := tk.w p g c hp hg x hx
    exact good_num (by omega)
structure RowOk (ws : List Str) : Prop where
  ne : ws ≠ []
  l : ws.length ≤ 44
  g : ∀ w ∈ ws, GoodW w
theorem wayRows_ok {P : Nat} {L : List (Nat × Nat)} {wf : WF} (tk : TOk P L wf) {p g : Nat} (hp : p < P) (hg : g < P) : ∀ ws ∈ wayRows L wf p g, RowOk ws := by
  intro ws hws
  unfold wayRows at hws
  obtain ⟨c, hc, e⟩ := List.mem_filterMap.mp hws
  split at e
  · cases e
  · cases e
    refine ⟨by unfold wayT; simp, ?_, way_good tk hp hg hc⟩
    have := tk.f p g c hp hg
    unfold wayT
    simp
    omega
theorem wayRows_len {L : List (Nat × Nat)} {wf : WF} {p g : Nat} : (wayRows L wf p g).length ≤ L.length + 1 := Nat.le_trans (List.length_filterMap_le _ _) comes_len
theorem lane_ok {P : Nat} {L : List (Nat × Nat)} (lk : LOk P L) {q : Nat × Nat} (h : q ∈ L) : RowOk ["lane", numS q.1, numS q.2] := by
  obtain ⟨h1, h2, _⟩ := lk.lt q h
  have := lk.p2
  refine ⟨by simp, by simp, fun w hw => ?_⟩
  simp only [List.mem_cons, List.not_mem_nil, or_false] at hw
  rcases hw with rfl | rfl | rfl
  · exact good_lit (by decide +kernel)
  · exact good_num (by omega)
  · exact good_num (by omega)
theorem head_ok {P : Nat} (h : P ≤ 12) : RowOk ["places", numS P] := by
  refine ⟨by simp, by simp, fun w hw => ?_⟩
  simp only [List.mem_cons, List.not_mem_nil, or_false] at hw
  rcases hw with rfl | rfl
  · exact good_lit (by decide +kernel)
  · exact good_num (by omega)
theorem tabT_ok {P : Nat} {L : List (Nat × Nat)} {wf : WF} (tk : TOk P L wf) : ∀ ws ∈ tabT P L wf, RowOk ws := by
  intro ws hws
  unfold tabT at hws
  rcases List.mem_cons.mp hws with rfl | hws
  · exact head_ok tk.l.p2
  · rcases List.mem_append.mp hws with hws | hws
    · obtain ⟨q, hq, rfl⟩ := List.mem_map.mp hws
      exact lane_ok tk.l hq
    · obtain ⟨p, hp, hws⟩ := List.mem_flatMap.mp hws
      obtain ⟨g, hg, hws⟩ := List.mem_flatMap.mp hws
      split at hws
      · cases hws
      · exact wayRows_ok tk (List.mem_range.mp hp) (List.mem_range.mp hg) ws hws
theorem rowT_len {ws : List Str} (h : RowOk ws) : (rowT ws).length ≤ 500 := by
  have h1 := join_len " " ws
  have h2 := sum_le (ys := ws) (k := 10) fun y hy => (h.g y hy).1
  have hb : (" " : Str).length = 1 := by rw [len_tl, tl_blank]; rfl
  rw [hb] at h1
  have := h.l
  show (Txt.join " " ws).length ≤ 500
  omega
theorem join_fits {rows : List (List Str)} (h : ∀ ws ∈ rows, RowOk ws) (hl : rows.length ≤ 10000) : ((rows.map rowT).map (·.length)).sum + (rows.map rowT).length * ("\n" : Str).length ≤ 16777216 := by
  have h2 := sum_le (ys := rows.map rowT) (k := 500) fun y hy => by
    obtain ⟨ws, hws, rfl⟩ := List.mem_map.mp hy
    exact rowT_len (h ws hws)
  have hb : ("\n" : Str).length = 1 := by rw [len_tl, tl_nl]; rfl
  rw [hb]
  rw [List.length_map] at h2 ⊢
  omega
theorem text_len {rows : List (List Str)} (h : ∀ ws ∈ rows, RowOk ws) (hl : rows.length ≤ 10000) : (textT rows).length ≤ 16000000 := by
  have h1 := join_len "\n" (rows.map rowT)
  have h2 := sum_le (ys := rows.map rowT) (k := 500) fun y hy => by
    obtain ⟨ws, hws, rfl⟩ := List.mem_map.mp hy
    exact rowT_len (h ws hws)
  have hb : ("\n" : Str).length = 1 := by rw [len_tl, tl_nl]; rfl
  rw [hb, List.length_map] at h1
  rw [List.length_map] at h2
  show (Txt.join "\n" (rows.map rowT)).length ≤ 16000000
  omega
/-- the rows behind the lanes, up to a place, up to a goal -/
def goalTo (P : Nat) (L : List (Nat × Nat)) (wf : WF) (p k : Nat) : List (List Str) := (List.range k).flatMap fun g => if p = g then [] else wayRows L wf p g
def placeTo (P : Nat) (L : List (Nat × Nat)) (wf : WF) (k : Nat) : List (List Str) := (List.range k).flatMap fun p => goalTo P L wf p P
theorem goalTo_succ {P : Nat} {L : List (Nat × Nat)} {wf : WF} {p k : Nat} : goalTo P L wf p (k + 1) = goalTo P L wf p k ++ if p = k then [] else wayRows L wf p k := by
  unfold goalTo
  rw [List.range_succ, List.flatMap_append]
  simp
theorem placeTo_succ {P : Nat} {L : List (Nat × Nat)} {wf : WF} {k : Nat} : placeTo P L wf (k + 1) = placeTo P L wf k ++ goalTo P L wf k P := by
  unfold placeTo
  rw [List.range_succ, List.flatMap_append]
  simp
def laneT (L : List (Nat × Nat)) : List (List Str) := L.map fun q => (["lane", numS q.1, numS q.2] : List Str)
def headT (P : Nat) (L : List (Nat × Nat)) (k : Nat) : List (List Str) := (["places", numS P] : List Str) :: laneT (L.take k)
theorem tabT_eq (P : Nat) (L : List (Nat × Nat)) (wf : WF) : tabT P L wf = headT P L L.length ++ placeTo P L wf P := by
  unfold tabT headT laneT placeTo goalTo
  rw [List.take_length]
  rfl
theorem goalTo_len {P : Nat} {L : List (Nat × Nat)} {wf : WF} {p k : Nat} (hL : L.length ≤ 40) : (goalTo P L wf p k).length ≤ k * 41 := by
  induction k with
  | zero => simp [goalTo]
  | succ k ih =>
    rw [goalTo_succ, List.length_append]
    have := wayRows_len (L := L) (wf := wf) (p := p) (g := k)
    split <;> simp <;> omega
theorem placeTo_len {P : Nat} {L : List (Nat × Nat)} {wf : WF} {k : Nat} (hL : L.length ≤ 40) (hP : P ≤ 12) : (placeTo P L wf k).length ≤ k * 492 := by
  induction k with
  | zero => simp [placeTo]
  | succ k ih =>
    rw [placeTo_succ, List.length_append]
    have := goalTo_len (P := P) (L := L) (wf := wf) (p := k) (k := P) hL
    omega
theorem tabT_len {P : Nat} {L : List (Nat × Nat)} {wf : WF} (lk : LOk P L) : (tabT P L wf).length ≤ 6000 := by
  rw [tabT_eq, List.length_append]
  have := placeTo_len (P := P) (L := L) (wf := wf) (k := P) lk.l lk.p2
  have h1 : (headT P L L.length).length ≤ 41 := by
    unfold headT laneT
    have := lk.l
    simp
    omega
  have := lk.p2
  omega
def spTableText : MSp := fun vs s Q _ => ∃ (n P : Nat) (L : List (Nat × Nat)) (wf : WF), vs = [.loc n] ∧ TabR s n P L wf ∧ TOk P L wf ∧ ∀ s', Pre s s' → Q (.str (textT (tabT P L wf))) s'
theorem law_tabletext {Γ : Prg} (h103 : Γ 0 103 = some spRowText) (h104 : Γ 0 104 = some spWayRows) : Law Γ d_table_text spTableText := by
  rintro _ s Q R ⟨n, P, L, wf, rfl, h, tk, q⟩
  refine ⟨rfl, ?_⟩
  have hP := tk.l.p2
  have hL := tk.l.l
  obtain ⟨c0, fs0, ln, t1, t2, t3⟩ := h.land
  have t3' : s[ln]? = some (.ins 17 (landFs P L)) := t3
  have g18 : lkM 18 (landFs P L) = some (.int (P : Nat)) := rfl
  have g19 : lkM 19 (landFs P L) = some (.tup (L.map prM)) := rfl
  show wpSs Γ b_table_text (stM b_table_text_N [.loc n]) s _
  unfold b_table_text
  rw [wpSs_cons]
  simp only [b_table_text_N, stM, wpS, wpE, wpEs, tgW, List.length_cons, List.length_nil, List.map_cons, List.map_nil, List.cons_append, List.nil_append, List.replicate, Nat.sub_self, List.getElem?_cons_zero, List.getElem?_cons_succ, List.set_cons_zero, List.set_cons_succ, callW, h103, dflt_nil, List.append_nil, fldW, t1, t2, t3', g18]
  refine ⟨by decide, ?_⟩
  have p1 : Pre s (s ++ [MO.lst [.str "places", .int (P : Nat)]]) := Pre.add _
  refine ⟨s.length, [.str "places", .int (P : Nat)], rfl, at_end, ?_, by simp, ?_, fun s2 p2 => ?_⟩
  · intro w hw
    simp only [List.mem_cons, List.not_mem_nil, or_false] at hw
    rcases hw with rfl | rfl
    · exact .inl ⟨_, rfl⟩
    · exact (word_lt (n := P) (by omega)).1
  · intro w hw
    simp only [List.mem_cons, List.not_mem_nil, or_false] at hw
    rcases hw with rfl | rfl
    · exact (word_lit "places").2
    · exact (word_lt (n := P) (by omega)).2
  refine ⟨by decide, ?_⟩
  have p3 : Pre s (s2 ++ [MO.lst [.str (rowT (["places", numS P] : List Str))]]) := (p1.trans p2).trans (Pre.add _)
  have x3 : (s2 ++ [MO.lst [.str (rowT (["places", numS P] : List Str))]])[s2.length]? = some (.lst (((headT P L 0).map rowT).map .str)) := at_end
  have hm0 : s.length ≤ s2.length := (p1.trans p2).len
  show wpSs Γ _ _ (s2 ++ [MO.lst [.str (rowT (["places", numS P] : List Str))]]) _
  generalize s2 ++ [MO.lst [.str (rowT (["places", numS P] : List Str))]] = s3 at p3 x3
  generalize s2.length = m at x3 hm0
  clear p2 p1
  rw [wpSs_cons]
  simp only [wpS, wpI, wpE, List.getElem?_cons_zero, List.getElem?_cons_succ, fldW, p3.at_ t1, t2, p3.at_ t3', g19, seqIt]
  refine forP (t := .free) prM (fun i σ s' => ∃ (a b : Option MV), σ = [some (.loc n), some (.loc m), a, b, none, none] ∧ Pre s s' ∧ s'[m]? = some (.lst (((headT P L i).map rowT).map .str))) L (fun _ _ _ _ _ => trivial) ?_ ?_ ⟨_, _, rfl, p3, x3⟩
  · rintro i x σ s4 hx ⟨a, b, rfl, p4, x4⟩ k hk
    have hil := (List.getElem?_eq_some_iff.mp hx).1
    obtain ⟨hx1, hx2, _⟩ := tk.l.lt x (List.mem_of_getElem? hx)
    simp only [tgW, tgsW, prM, List.set_cons_zero, List.set_cons_succ]
    refine ⟨trivial, ?_⟩
    rw [wpSs_cons]
    simp only [wpS, wpE, wpEs, List.getElem?_cons_zero, List.getElem?_cons_succ, kindM, x4, bmK, callW, h103, dflt_nil, List.append_nil]
    refine ⟨trivial, sz3, ?_⟩
    have p5 : Pre s4 (s4 ++ [MO.lst [.str "lane", .int (x.1 : Nat), .int (x.2 : Nat)]]) := Pre.add _
    refine ⟨s4.length, [.str "lane", .int (x.1 : Nat), .int (x.2 : Nat)], rfl, at_end, ?_, by simp, ?_, fun s6 p6 => ?_⟩
    · intro w hw
      simp only [List.mem_cons, List.not_mem_nil, or_false] at hw
      rcases hw with rfl | rfl | rfl
      · exact .inl ⟨_, rfl⟩
      · exact (word_lt (n := x.1) (by omega)).1
      · exact (word_lt (n := x.2) (by omega)).1
    · intro w hw
      simp only [List.mem_cons, List.not_mem_nil, or_false] at hw
      rcases hw with rfl | rfl | rfl
      · exact (word_lit "lane").2
      · exact (word_lt (n := x.1) (by omega)).2
      · exact (word_lt (n := x.2) (by omega)).2
    · have p46 := p5.trans p6
      have x6 := p46.at_ x4
      simp only [bmW, x6, wpSs_nil]
      have hl : (headT P L i).length ≤ 41 := by
        unfold headT laneT
        simp
        omega
      refine ⟨by rw [List.length_map, List.length_map]; simp [sizeLine]; omega, hk _ _ ⟨_, _, rfl, (p4.trans p46).set hm0 _, ?_⟩⟩
      rw [List.getElem?_set_self (lt_of_at x6)]
      have : headT P L (i + 1) = headT P L i ++ [(["lane", numS x.1, numS x.2] : List Str)] := by
        unfold headT laneT
        rw [List.take_add_one, hx]
        simp
      rw [this, List.map_append, List.map_append]
      rfl
  · rintro σ s4 ⟨a, b, rfl, p4, x4⟩
    simp only [Still.out]
    rw [wpSs_cons]
    simp only [wpS, wpI, wpE, wpEs, List.getElem?_cons_zero, List.getElem?_cons_succ, fldW, p4.at_ t1, t2, p4.at_ t3', g18]
    refine ⟨by omega, ?_⟩
    rw [rng_nats]
    have hh : (headT P L L.length).length ≤ 41 := by
      unfold headT laneT
      simp
      omega
    refine forP (t := .free) (fun i : Nat => MV.int (i : Nat)) (fun i σ s' => ∃ (r : Nat) (a b c d : Option MV), σ = [some (.loc n), some (.loc r), a, b, c, d] ∧ Pre s s' ∧ s'[r]? = some (.lst (((headT P L L.length ++ placeTo P L wf i).map rowT).map .str))) (List.range P) (fun _ _ _ _ _ => trivial) ?_ ?_ ⟨m, _, _, _, _, rfl, p4, by simpa [placeTo] using x4⟩
    · rintro p x σ s5 hx ⟨r, a, b, c, d, rfl, p5, x5⟩ k hk
      obtain ⟨hpl, hx2⟩ := List.getElem?_eq_some_iff.mp hx
      have hpP : p < P := by simpa using hpl
      have hxe : x = p := by rw [← hx2]; simp
      subst hxe
      simp only [tgW, List.set_cons_zero, List.set_cons_succ]
      rw [wpSs_cons]
      simp only [wpS, wpI, wpE, wpEs, List.getElem?_cons_zero, List.getElem?_cons_succ, fldW, p5.at_ t1, t2, p5.at_ t3', g18]
      refine ⟨by omega, ?_⟩
      rw [rng_nats]
      refine forP (t := .free) (fun i : Nat => MV.int (i : Nat)) (fun j σ s' => ∃ (r : Nat) (a b d : Option MV), σ = [some (.loc n), some (.loc r), a, b, some (.int (x : Nat)), d] ∧ Pre s s' ∧ s'[r]? = some (.lst (((headT P L L.length ++ placeTo P L wf x ++ goalTo P L wf x j).map rowT).map .str))) (List.range P) (fun _ _ _ _ _ => trivial) ?_ ?_ ⟨r, _, _, _, rfl, p5, by simpa [goalTo] using x5⟩
      · rintro g y σ s6 hy ⟨r, a, b, d, rfl, p6, x6⟩ k2 hk2
        obtain ⟨hgl, hy2⟩ := List.getElem?_eq_some_iff.mp hy
        have hgP : g < P := by simpa using hgl
        have hye : y = g := by rw [← hy2]; simp
        subst hye
        simp only [tgW, List.set_cons_zero, List.set_cons_succ]
        rw [wpSs_cons]
        simp only [wpS, wpE, wpEs, List.getElem?_cons_zero, List.getElem?_cons_succ, cmpW, eqW_int]
        by_cases hne : x = y
        · have hne' : ((x : Nat) : Int) = (y : Nat) := by omega
          simp only [hne', decide_true, Bool.not_true, wpSs_nil]
          rw [← hne']
          refine hk2 _ _ ⟨r, _, _, _, rfl, p6, ?_⟩
          rw [goalTo_succ, if_pos hne, List.append_nil]
          exact x6
        · have hne' : ¬ ((x : Nat) : Int) = (y : Nat) := by omega
          simp only [hne', decide_false, Bool.not_false]
          rw [wpSs_cons]
          simp only [wpS, wpE, wpEs, List.getElem?_cons_zero, List.getElem?_cons_succ, callW, h104, dflt_nil, List.append_nil]
          refine ⟨n, x, y, P, L, wf, rfl, h.mono p6, tk, hpP, hgP, fun s7 m7 n7 => ?_⟩
          obtain ⟨p7, l7, x7⟩ := n7
          have y7 := p7.at_ x6
          have hl1 := placeTo_len (P := P) (L := L) (wf := wf) (k := x) hL hP
          have hl2 := goalTo_len (P := P) (L := L) (wf := wf) (p := x) (k := y) hL
          have hl3 := wayRows_len (L := L) (wf := wf) (p := x) (g := y)
          simp only [binW, y7, x7, tgW, List.set_cons_zero, List.set_cons_succ, wpSs_nil]
          refine ⟨by simp only [List.length_map, List.length_append]; simp [sizeLine]; omega, hk2 _ _ ⟨s7.length, _, _, _, rfl, (p6.trans p7).trans (Pre.add _), ?_⟩⟩
          rw [at_end, goalTo_succ, if_neg hne]
          simp [List.map_append, List.append_assoc]
      · rintro σ s6 ⟨r, a, b, d, rfl, p6, x6⟩
        simp only [Still.out, wpSs_nil]
        refine hk _ _ ⟨r, _, _, _, _, rfl, p6, ?_⟩
        rw [x6, placeTo_succ, List.length_range, List.append_assoc]
    · rintro σ s5 ⟨r, a, b, c, d, rfl, p5, x5⟩
      simp only [Still.out]
      rw [wpSs_cons]
      rw [List.length_range, ← tabT_eq] at x5
      simp only [wpS, wpE, wpEs, List.getElem?_cons_zero, List.getElem?_cons_succ, kindM, bmK, bmW, x5, strsOf_map]
      exact ⟨trivial, join_fits (tabT_ok tk) (Nat.le_trans (tabT_len tk.l) (by decide)), q s5 p5⟩
end Ly
namespace Ly
open PySem L2 TL
open PyProof.Rows hiding St
theorem starts_one (z : Str) (c : Nat) : Txt.startswith z ⟨#[c]⟩ = decide ((tl z)[0]? = some c) := by
  unfold Txt.startswith
  rw [Bool.eq_iff_iff, Bool.and_eq_true, decide_eq_true_iff, decide_eq_true_iff]
  have e1 : ((⟨#[c]⟩ : Str)).length = 1 := rfl
  exact PySem.StrLaws.subAt_one z c 0
theorem numL_first {n : Nat} : (numL n)[0]? ≠ some 45 := fun h => absurd (List.mem_of_getElem? h) (numL_free (.inl (by decide)))
theorem tl_figs : tl ("0123456789" : Str) = [48, 49, 50, 51, 52, 53, 54, 55, 56, 57] := by decide +kernel
theorem fig_mem {c : Nat} (h : 48 ≤ c ∧ c ≤ 57) : c ∈ tl ("0123456789" : Str) := by
  rw [tl_figs]
  simp
  omega
theorem mem_signs {z : Str} {v : MV} (h : v ∈ signsM z) : ∃ c ∈ tl z, v = .str ⟨#[c]⟩ := by
  obtain ⟨c, hc, rfl⟩ := List.mem_map.mp h
  exact ⟨c, hc, rfl⟩
theorem str_lit (x : String) {z : Str} (h : tl z = x.toList.map Char.toNat) : z = Str.ofString x := ext_tl (by rw [h, tl_ofString])
/-- [sign for sign in figures if sign not in FIGURES] == []: all are figures -/
theorem figs_lc {Γ : Prg} {σ : MEnv} {s : MS} {z : Str} {i j k : Nat} {Q : QV} {R : QX} (hz : ∀ c ∈ tl z, 48 ≤ c ∧ c ≤ 57) (hl : z.length ≤ 1000) (hi : σ[i]? = some (some (.str z))) (hj : j < σ.length) (q : Q (.loc s.length) (s ++ [.lst []])) :
    wpE Γ (.lc (.var j) (.nm j) (.seq (.var i)) (.so (.cmp .notin (.var j) (.glo k "0123456789"))) [j]) σ s Q R := by
  unfold wpE
  simp only [wpI, wpE, hi, seqIt]
  have hm : signsM z = (tl z).map fun c => MV.str ⟨#[c]⟩ := rfl
  rw [hm]
  refine lcP (t := .free) (fun c : Nat => MV.str ⟨#[c]⟩) (fun _ => none) (tl z) (by rw [← len_tl]; omega) (fun _ => trivial) ?_ ?_
  · intro c hc acc K ha hK
    have g1 : ((wipeM σ [j]).set j (some (.str ⟨#[c]⟩)))[j]? = some (some (.str ⟨#[c]⟩)) := by
      rw [List.getElem?_set_self]
      show j < (σ.set j none).length
      simpa using hj
    simp only [tgW, wpT, wpE, g1, cmpW, inW, PySem.StrLaws.found_one]
    rw [decide_eq_true (fig_mem (hz c hc))]
    simpa using hK
  · have : (tl z).filterMap (fun _ => (none : Option MV)) = [] := by
      induction tl z with
      | nil => rfl
      | cons x r ih => simpa using ih
    rw [this]
    simp only [Still.out]
    exact q
def spNumber : MSp := fun vs s Q _ => ∃ n : Nat, vs = [.str (numS n)] ∧ n < 10 ^ 60 ∧ ∀ s', Pre s s' → Q (.int (n : Nat)) s'
theorem law_number {Γ : Prg} : Law Γ d_number_of spNumber := by
  rintro _ s Q R ⟨n, rfl, hn, q⟩
  refine ⟨rfl, ?_⟩
  have hlen := numS_len (k := 60) (by decide) hn
  show wpSs Γ b_number_of [some (.str (numS n)), none, none] s _
  unfold b_number_of
  rw [wpSs_cons]
  simp only [wpS, wpE, tgW, List.getElem?_cons_zero, List.getElem?_cons_succ, List.set_cons_zero, List.set_cons_succ]
  rw [wpSs_cons]
  have hs : Txt.startswith (numS n) "-" = false := by
    have e : ("-" : Str) = ⟨#[45]⟩ := by decide +kernel
    rw [e, starts_one, tl_numS]
    exact decide_eq_false numL_first
  simp only [wpS, wpE, wpEs, List.getElem?_cons_zero, List.getElem?_cons_succ, kindM, bmK, bmW, hs, wpSs_nil]
  refine ⟨trivial, ?_⟩
  rw [wpSs_cons]
  have hne : ¬ numS n = "" := fun e => by
    have h1 := congrArg tl e
    rw [tl_numS] at h1
    have h2 : tl ("" : Str) = [] := by decide +kernel
    rw [h2] at h1
    exact numL_ne n h1
  have h60 : ¬ (60 : Int) < (((numS n).length : Nat) : Int) := by omega
  simp only [wpS, wE_var, wE_non, wE_bl, wE_int, wE_str, wE_glo, wE_tup, wE_lst, wE_dnew, wE_ddisp, wE_bin, wE_neg, wE_cmp, wE_chn, wE_and, wE_or, wE_not, wE_ite, wE_fld, wE_ix, wE_sl, wE_call, wE_make, wE_meth, wE_sup, wE_bf, wE_bm, wE_isi, wE_fst, wpEs, List.getElem?_cons_zero, List.getElem?_cons_succ, cmpW, eqW_str, hne, decide_false, bfW, h60]
  refine ⟨by simp [sizeLine]; omega, ?_⟩
  refine figs_lc (z := numS n) (fun c hc => by rw [tl_numS] at hc; exact numL_digits n c hc) (by omega) rfl (by simp) ?_
  refine ⟨sz0, ne_nil (l := []) ((Pre.add _).at_ at_end) at_end ?_⟩
  have p1 : Pre s (s ++ [MO.lst []] ++ [MO.lst []]) := (Pre.add _).trans (Pre.add _)
  generalize s ++ [MO.lst []] ++ [MO.lst []] = s1 at p1
  simp only [decide_true, Bool.not_true, wpSs_nil]
  rw [wpSs_cons]
  simp only [wpS, wpE, List.getElem?_cons_zero, List.getElem?_cons_succ, cmpW, eqW, decide_true, Bool.not_true, wpSs_nil]
  rw [wpSs_cons]
  simp only [wpS, wpE, wpEs, List.getElem?_cons_zero, List.getElem?_cons_succ, bfW, int_numS hn]
  exact ⟨by omega, q s1 p1⟩
def spNumbers : MSp := fun vs s Q _ => ∃ (m : Nat) (ns : List Nat), vs = [.loc m] ∧ s[m]? = some (.lst ((ns.map numS).map .str)) ∧ (∀ n ∈ ns, n < 10 ^ 60) ∧ ns.length ≤ 1000 ∧ ∀ s' k, NewL s s' k (natsM ns) → Q (.loc k) s'
theorem law_numbers {Γ : Prg} (h106 : Γ 0 106 = some spNumber) : Law Γ d_numbers_of spNumbers := by
  rintro _ s Q R ⟨m, ns, rfl, h1, hn, hl, q⟩
  refine ⟨rfl, ?_⟩
  show wpSs Γ b_numbers_of [some (.loc m), none] s _
  unfold b_numbers_of
  rw [wpSs_cons]
  simp only [wpS]
  unfold wpE
  have e1 : (ns.map numS).map MV.str = ns.map fun n => MV.str (numS n) := by rw [List.map_map]; rfl
  rw [e1] at h1
  simp only [wpI, wpE, List.getElem?_cons_zero, List.getElem?_cons_succ, seqIt, h1]
  have hlt := lt_of_at h1
  refine lcL_inv (t := .obj m (ns.map fun n => MV.str (numS n))) (fun l s' => ∃ pre suf : List Nat, ns = pre ++ suf ∧ l = suf.map (fun n => MV.str (numS n)) ∧ Pre s s' ∧ s'[s.length]? = some (.lst (natsM pre)))
    (fun l s' h => by obtain ⟨_, _, _, _, p, _⟩ := h; exact p.at_ h1) ?_ ?_ _ _ ⟨[], ns, rfl, rfl, Pre.add _, at_end⟩
  · rintro x r s2 ⟨pre, suf, e1, e2, p2, x2⟩ K hK
    cases suf with
    | nil => cases e2
    | cons v suf =>
      have e2' : x = .str (numS v) ∧ r = suf.map (fun n => MV.str (numS n)) := by
        rw [List.map_cons] at e2
        cases e2
        exact ⟨rfl, rfl⟩
      obtain ⟨rfl, rfl⟩ := e2'
      simp only [wipeM, tgW, wpT, wpE, wpEs, List.set_cons_zero, List.set_cons_succ, List.getElem?_cons_zero, List.getElem?_cons_succ, if_true, callW, h106, dflt_nil, List.append_nil]
      refine ⟨v, rfl, hn v (by rw [e1]; simp), fun s3 p3 => ?_⟩
      have x3 := p3.at_ x2
      have hOl := congrArg List.length e1
      simp at hOl
      simp only [x3]
      refine ⟨by rw [natsM_len]; simp [sizeLine]; omega, hK _ ⟨pre ++ [v], suf, by simp [e1], rfl, (p2.trans p3).set (Nat.le_refl _) _, ?_⟩⟩
      rw [List.getElem?_set_self (lt_of_at x3)]
      simp [natsM]
  · rintro s2 ⟨pre, suf, e1, e2, p2, x2⟩
    have hsuf : suf = [] := by simpa using e2.symm
    subst hsuf
    rw [List.append_nil] at e1
    subst e1
    simp only [Still.out]
    exact q s2 _ ⟨p2, Nat.le_refl _, x2⟩
/-- an entry: place, goal, came, ways -/
def spEntry : MSp := fun vs s Q _ => ∃ (m p g : Nat) (c : Option Nat) (ws : List Nat), vs = [.loc m] ∧ s[m]? = some (.lst ((wayT p g c ws).map .str)) ∧ p < 100 ∧ g < 100 ∧ (∀ i, c = some i → i < 100) ∧ (∀ x ∈ ws, x < 100) ∧ ws.length ≤ 100 ∧
  ∀ s' k, NewL s s' k (natsM ws) → Q (.tup [.int (p : Nat), .int (g : Nat), cameM c, .loc k]) s'
theorem law_entry {Γ : Prg} (h106 : Γ 0 106 = some spNumber) (h107 : Γ 0 107 = some spNumbers) : Law Γ d_entry_of spEntry := by
  rintro _ s Q R ⟨m, p, g, c, ws, rfl, h1, hp, hg, hc, hw, hl, q⟩
  refine ⟨rfl, ?_⟩
  have big : ∀ {x : Nat}, x < 100 → x < 10 ^ 60 := fun h => Nat.lt_trans h (by decide)
  have a1 : atI ((wayT p g c ws).map MV.str) 1 = some (.str (numS p)) := by rw [at1]; rfl
  have a2 : atI ((wayT p g c ws).map MV.str) 2 = some (.str (numS g)) := by rw [at2]; rfl
  have a3 : atI ((wayT p g c ws).map MV.str) 3 = some (.str (cS c)) := by rw [at3]; rfl
  have hcut : cutM ((wayT p g c ws).map MV.str) (some 4) none = (ws.map numS).map MV.str := by
    have h4 : (4 : Int) = ((4 : Nat) : Int) := rfl
    rw [h4, cut_from (by unfold wayT; simp)]
    rfl
  show wpSs Γ b_entry_of [some (.loc m), none] s _
  unfold b_entry_of
  rw [wpSs_cons]
  simp only [wpS, wpE, tgW, List.set_cons_zero, List.set_cons_succ]
  rw [wpSs_cons]
  have tail : ∀ s1, Pre s s1 → wpSs Γ (.cons (.ret (.tup (.cons (.call 106 (.cons (.ix (.var 0) (.int 1)) .nil)) (.cons (.call 106 (.cons (.ix (.var 0) (.int 2)) .nil)) (.cons (.var 1) (.cons (.call 107 (.cons (.sl (.var 0) (.so (.int 4)) .no) .nil)) .nil)))))) .nil) [some (.loc m), some (cameM c)] s1 { nx := fun _ s' => Q .non s', rt := Q, ex := fun y _ s' => R y s' } := by
    intro s1 p1
    rw [wpSs_cons]
    simp only [wpS, wpE, wpEs, wpO, List.getElem?_cons_zero, List.getElem?_cons_succ, ixW, p1.at_ h1, atW, a1, callW, h106, h107, dflt_nil, List.append_nil]
    refine ⟨p, rfl, big hp, fun s2 p2 => ?_⟩
    simp only [(p1.trans p2).at_ h1, a2]
    refine ⟨g, rfl, big hg, fun s3 p3 => ?_⟩
    have p13 := (p1.trans p2).trans p3
    simp only [slW, p13.at_ h1, hcut]
    refine ⟨s3.length, ws, rfl, at_end, fun x hx => big (hw x hx), by omega, fun s5 k n5 => ?_⟩
    obtain ⟨p5, l5, x5⟩ := n5
    have pp := p13.trans ((Pre.add _).trans p5)
    refine ⟨sz4, q s5 k ⟨pp, ?_, x5⟩⟩
    have := p13.len
    simp at l5
    omega
  simp only [wpS, wpE, List.getElem?_cons_zero, List.getElem?_cons_succ, ixW, h1, atW, a3, cmpW, eqW]
  cases c with
  | none =>
    have : cS none = ("-" : Str) := rfl
    simp only [this, decide_true, Bool.not_true, wpSs_nil]
    exact tail s Pre.refl
  | some i =>
    have hne : ¬ cS (some i) = ("-" : Str) := fun e => by
      have h1 := congrArg tl e
      have h2 : tl ("-" : Str) = [45] := by decide +kernel
      rw [h2] at h1
      have h3 : tl (cS (some i)) = numL i := tl_numS i
      rw [h3] at h1
      exact numL_first (n := i) (by rw [h1]; rfl)
    simp only [hne, decide_false, Bool.not_false]
    rw [wpSs_cons]
    simp only [wpS, wpE, wpEs, List.getElem?_cons_zero, List.getElem?_cons_succ, ixW, h1, atW, a3, callW, h106, dflt_nil, List.append_nil]
    refine ⟨i, rfl, big (hc i rfl), fun s1 p1 => ?_⟩
    simp only [tgW, List.set_cons_zero, List.set_cons_succ, wpSs_nil]
    exact tail s1 p1
end Ly
namespace Ly
open PySem L2
open PyProof.Rows hiding St
theorem law_loopways {Γ : Prg} : Law Γ d_Loop_ways spLoopWays := by
  rintro _ s Q R ⟨n, P, p, g, c, rfl, ⟨⟨ln, h1, h2⟩, hP, _, _⟩, hp, q⟩
  refine ⟨rfl, ?_⟩
  have fin : ∀ l : List Nat, loopW P p g c = l → Q (.loc s.length) (s ++ [.lst (natsM l)]) := fun l e => by
    rw [e] at q
    exact q _ _ ⟨Pre.add _, Nat.le_refl _, at_end⟩
  by_cases hpg : p = g
  · subst hpg
    simp [d_Loop_ways, b_Loop_ways, b_Loop_ways_N, stM, wpSs, wpS, wpE, wpEs, cmpW, eqW]
    exact fin [] (by simp [loopW])
  · have hpg' : ¬ ((p : Nat) : Int) = (g : Nat) := by omega
    cases c with
    | none =>
      simp [d_Loop_ways, b_Loop_ways, b_Loop_ways_N, stM, wpSs, wpS, wpE, wpEs, cmpW, eqW, hpg', cameM]
      refine ⟨by decide, fin [p] (by simp [loopW, hpg])⟩
    | some i =>
      by_cases hi : P - 1 ≤ i
      · have hi' : ((P : Nat) : Int) - 1 ≤ (i : Nat) := by omega
        simp [d_Loop_ways, b_Loop_ways, b_Loop_ways_N, stM, wpSs, wpS, wpE, wpEs, cmpW, eqW, hpg', cameM, fldW, h1, lkM, binW, hi']
        refine ⟨by decide, fin [P + p] (by simp [loopW, hpg, hi])⟩
      · have hi' : ¬ ((P : Nat) : Int) - 1 ≤ (i : Nat) := by omega
        simp [d_Loop_ways, b_Loop_ways, b_Loop_ways_N, stM, wpSs, wpS, wpE, wpEs, cmpW, eqW, hpg', cameM, fldW, h1, lkM, binW, hi']
        refine ⟨by decide, fin [p] (by simp [loopW, hpg, hi])⟩
def spLoop : MSp := fun vs s Q _ => ∃ (s0 : MS) (n P : Nat), vs = [.loc n, .int (P : Nat)] ∧ NewI s0 s n 38 ∧ 2 ≤ P ∧ P ≤ 12 ∧ ∀ s', Pre s0 s' → LoopR s' n P → FrT s0.length s' n → Q .non s'
theorem law_loop {Γ : Prg} (h24 : Γ 24 0 = some spTabI) (h17 : Γ 17 0 = some spLand) : Law Γ d_Loop_init spLoop := by
  rintro _ s Q R ⟨s0, n, P, rfl, ⟨hp, hn, hi⟩, hp2, hp12, q⟩
  refine ⟨rfl, ?_⟩
  show wpSs Γ b_Loop_init (stM b_Loop_init_N [.loc n, .int (P : Nat)]) _ _
  unfold b_Loop_init
  rw [wpSs_cons]
  have e1 : ¬ ((P : Nat) : Int) < 2 := by omega
  have e2 : ¬ (12 : Int) < (P : Nat) := by omega
  simp [b_Loop_init_N, stM, wpS, wpE, wpEs, wpI, cmpW, e1, e2, wpSs_nil]
  rw [wpSs_cons]
  simp [wpS, wpE, wpEs, wpI, tgW]
  refine ⟨by omega, ?_⟩
  rw [rng_nats]
  refine lcP (t := .free) (fun p : Nat => MV.int (p : Nat)) (fun p => some (prM (p, (p + 1) % P))) (List.range P) (by simp; omega) (fun _ => trivial) ?_ ?_
  · intro p hpr acc k ha hk
    have hpP := List.mem_range.mp hpr
    have e4 : ((((p : Nat) : Int) + 1) % (P : Nat)) = (((p + 1) % P : Nat) : Int) := by simp
    simp only [wipeM, tgW, wpT, List.foldl_cons, List.foldl_nil, List.set_cons_succ, List.set_cons_zero, List.getElem?_cons_succ, List.getElem?_cons_zero, binW, bfW, ixW, atW, if_true]
    have e3 : ∀ x y : MV, atI [x, y] 1 = some y := fun _ _ => rfl
    rw [e3, at_end, e4]
    refine ⟨⟨by omega, by omega⟩, by decide, ha, ?_⟩
    rw [List.set_append_right _ _ (Nat.le_refl _)]
    simpa [prM] using hk
  · rw [List.filterMap_eq_map']
    have e5 : (List.range P).map (fun p => prM (p, (p + 1) % P)) = ((List.range P).map fun p => (p, (p + 1) % P)).map prM := by
      rw [List.map_map]
      rfl
    rw [e5]
    have hcl : ((List.range P).map fun p => (p, (p + 1) % P)).length ≤ 12 := by simpa using hp12
    have hll : loopL P = ((List.range P).map fun p => (p, (p + 1) % P)) ++ ((List.range P).map fun p => (p, (p + 1) % P)) := rfl
    generalize (List.range P).map (fun p => (p, (p + 1) % P)) = C at hcl hll
    have x1 : (s ++ [MO.lst (C.map prM)])[s.length]? = some (.lst (C.map prM)) := at_end
    have p1 : Pre s (s ++ [MO.lst (C.map prM)]) := Pre.add _
    have l1 : (s ++ [MO.lst (C.map prM)]).length = s.length + 1 := by simp
    generalize s ++ [MO.lst (C.map prM)] = s1 at x1 p1 l1
    simp only [Still.out, tgW, List.set_cons_succ, List.set_cons_zero]
    rw [wpSs_cons]
    have h17' : Γ 17 iInit = some spLand := h17
    simp only [wpS, wpE, wpEs, callW, h24, h17', mr_Land_init, List.getElem?_cons_succ, List.getElem?_cons_zero, binW, x1]
    have x2 : (s1 ++ [MO.lst (C.map prM ++ C.map prM)])[s1.length]? = some (.lst (C.map prM ++ C.map prM)) := at_end
    have p2 : Pre s1 (s1 ++ [MO.lst (C.map prM ++ C.map prM)]) := Pre.add _
    generalize s1 ++ [MO.lst (C.map prM ++ C.map prM)] = s2 at x2 p2
    refine ⟨by simp [sizeLine]; omega, s2.length, s1.length, P, C ++ C, rfl, ?_, at_end, ?_, ?_, rfl, n, 38, .loc s2.length, rfl, ?_, ?_⟩
    · have := lt_of_at x2
      omega
    · rw [List.map_append]
      exact (Pre.add _).at_ x2
    · rw [← hll]
      exact loop_ok hp2 hp12
    · rw [List.set_append_right _ _ (Nat.le_refl _)]
      exact ((p1.trans p2).trans (Pre.add _)).at_ hi
    · rw [List.set_append_right _ _ (Nat.le_refl _)]
      simp only [Nat.sub_self, List.set_cons_zero]
      have hi3 : (s2 ++ [MO.ins 17 (landFs P (C ++ C))])[n]? = some (.ins 38 []) := ((p1.trans p2).trans (Pre.add _)).at_ hi
      have x3 : (s2 ++ [MO.ins 17 (landFs P (C ++ C))])[s2.length]? = some (.ins 17 (landFs P (C ++ C))) := at_end
      have p3 : Pre s0 (s2 ++ [MO.ins 17 (landFs P (C ++ C))]) := hp.trans ((p1.trans p2).trans (Pre.add _))
      generalize s2 ++ [MO.ins 17 (landFs P (C ++ C))] = s3 at hi3 x3 p3
      have hne : n ≠ s2.length := by
        intro z
        rw [z, x3] at hi3
        cases hi3
      have hl3 := lt_of_at hi3
      rw [wpSs_cons]
      simp [wpS, wpE, setfW, List.getElem?_set_self hl3, putM, wpSs_nil]
      refine q _ ((p3.set hn _)) ⟨⟨s2.length, List.getElem?_set_self hl3, ?_⟩, hp2, hp12, rfl⟩ (FrT.of (List.getElem?_set_self hl3) (fun k e => by simp [lkM] at e) (fun k e => by simp [lkM] at e) fun d kvs p g cm l e => by simp [lkM] at e)
      show (s3.set n _)[s2.length]? = _
      rw [List.getElem?_set_ne hne, x3, hll]
end Ly
namespace Ly
open PySem L2 TL
open PyProof.Rows hiding St
/-- rows of words, as they lie -/
def RowsL (s : MS) (m : Nat) (rows : List (List Str)) : Prop := ∃ ds : List Nat, s[m]? = some (.lst (ds.map .loc)) ∧ ds.length = rows.length ∧ ∀ (i d : Nat), ds[i]? = some d → ∃ ws, rows[i]? = some ws ∧ s[d]? = some (.lst (ws.map .str))
theorem RowsL.mono {s s' : MS} {m : Nat} {rows : List (List Str)} (h : RowsL s m rows) (p : Pre s s') : RowsL s' m rows :=
  let ⟨ds, h1, h2, h3⟩ := h; ⟨ds, p.at_ h1, h2, fun i d e => let ⟨ws, a, b⟩ := h3 i d e; ⟨ws, a, p.at_ b⟩⟩
theorem blank_len : (" " : Str).length = 1 := by rw [len_tl, tl_blank]; rfl
theorem nl_len : ("\n" : Str).length = 1 := by rw [len_tl, tl_nl]; rfl
def spRowsOf : MSp := fun vs s Q _ => ∃ rows : List (List Str), vs = [.str (textT rows)] ∧ rows ≠ [] ∧ (∀ ws ∈ rows, RowOk ws) ∧ rows.length ≤ 10000 ∧ ∀ s' m, Pre s s' → RowsL s' m rows → Q (.loc m) s'
theorem law_rowsof {Γ : Prg} : Law Γ d_rows_of spRowsOf := by
  rintro _ s Q R ⟨rows, rfl, h0, hok, hl, q⟩
  refine ⟨rfl, ?_⟩
  show wpSs Γ b_rows_of [some (.str (textT rows)), none] s _
  unfold b_rows_of
  rw [wpSs_cons]
  simp only [wpS, wE_var, wE_non, wE_bl, wE_int, wE_str, wE_glo, wE_tup, wE_lst, wE_dnew, wE_ddisp, wE_bin, wE_neg, wE_cmp, wE_chn, wE_and, wE_or, wE_not, wE_ite, wE_fld, wE_ix, wE_sl, wE_call, wE_make, wE_meth, wE_sup, wE_bf, wE_bm, wE_isi, wE_fst, List.getElem?_cons_zero, List.getElem?_cons_succ, isiW]
  simp only [show (IK.kstr == IK.kstr) = true from rfl, Bool.not_true, wpSs_nil]
  rw [wpSs_cons]
  simp only [wpS]
  unfold wpE
  have htl := text_len hok hl
  have hsp := split_text h0 fun ws hws w hw => ((hok ws hws).g w hw).2.2
  simp only [wpI, wE_var, wE_non, wE_bl, wE_int, wE_str, wE_glo, wE_tup, wE_lst, wE_dnew, wE_ddisp, wE_bin, wE_neg, wE_cmp, wE_chn, wE_and, wE_or, wE_not, wE_ite, wE_fld, wE_ix, wE_sl, wE_call, wE_make, wE_meth, wE_sup, wE_bf, wE_bm, wE_isi, wE_fst, wpEs, List.getElem?_cons_zero, List.getElem?_cons_succ, kindM, bmK, bmW, hsp]
  refine ⟨trivial, by rw [nl_len]; rfl, by simp [sizeLine]; omega, ?_⟩
  have p1 : Pre s (s ++ [MO.lst ((rows.map rowT).map .str)]) := Pre.add _
  have x1 : (s ++ [MO.lst ((rows.map rowT).map .str)])[s.length]? = some (.lst (rows.map fun ws => MV.str (rowT ws))) := by rw [at_end, List.map_map]; rfl
  generalize s ++ [MO.lst ((rows.map rowT).map .str)] = s1 at p1 x1
  simp only [seqIt, x1]
  have hlt := lt_of_at x1
  refine lcL_inv (t := .obj s.length (rows.map fun ws => MV.str (rowT ws))) (fun l s' => ∃ (pre suf : List (List Str)) (ds : List Nat), rows = pre ++ suf ∧ l = suf.map (fun ws => MV.str (rowT ws)) ∧ Pre s1 s' ∧ s'[s1.length]? = some (.lst (ds.map .loc)) ∧ ds.length = pre.length ∧ ∀ (i d : Nat), ds[i]? = some d → d ≠ s1.length ∧ ∃ ws, pre[i]? = some ws ∧ s'[d]? = some (.lst (ws.map .str)))
    (fun l s' h => by obtain ⟨_, _, _, _, _, p, _⟩ := h; exact p.at_ x1) ?_ ?_ _ _ ⟨[], rows, [], rfl, rfl, Pre.add _, at_end, rfl, fun i d e => nomatch e⟩
  · rintro x r s2 ⟨pre, suf, ds, e1, e2, p2, x2, hd, hds⟩ K hK
    cases suf with
    | nil => cases e2
    | cons v suf =>
      have e2' : x = .str (rowT v) ∧ r = suf.map (fun ws => MV.str (rowT ws)) := by
        rw [List.map_cons] at e2
        cases e2
        exact ⟨rfl, rfl⟩
      obtain ⟨rfl, rfl⟩ := e2'
      have hv : RowOk v := hok v (by rw [e1]; simp)
      have hrl := rowT_len hv
      have hsr := split_row hv.ne fun w hw => (hv.g w hw).2.1
      simp only [wipeM, tgW, wpT, List.set_cons_zero, List.set_cons_succ, if_true, wE_var, wE_non, wE_bl, wE_int, wE_str, wE_glo, wE_tup, wE_lst, wE_dnew, wE_ddisp, wE_bin, wE_neg, wE_cmp, wE_chn, wE_and, wE_or, wE_not, wE_ite, wE_fld, wE_ix, wE_sl, wE_call, wE_make, wE_meth, wE_sup, wE_bf, wE_bm, wE_isi, wE_fst, wpEs, List.getElem?_cons_zero, List.getElem?_cons_succ, kindM, bmK, bmW, hsr]
      refine ⟨trivial, by rw [blank_len]; rfl, by simp [sizeLine]; omega, ?_⟩
      have p3 : Pre s2 (s2 ++ [MO.lst (v.map .str)]) := Pre.add _
      have y3 : (s2 ++ [MO.lst (v.map .str)])[s2.length]? = some (.lst (v.map .str)) := at_end
      have x3 := p3.at_ x2
      have hne : s2.length ≠ s1.length := by have := lt_of_at x2; omega
      generalize s2 ++ [MO.lst (v.map .str)] = s3 at p3 y3 x3
      have hOl := congrArg List.length e1
      simp at hOl
      simp only [x3]
      refine ⟨by simp [sizeLine]; omega, hK _ ⟨pre ++ [v], suf, ds ++ [s2.length], by simp [e1], rfl, (p2.trans p3).set (Nat.le_refl _) _, ?_, by simp [hd], ?_⟩⟩
      · rw [List.getElem?_set_self (lt_of_at x3)]
        simp
      · intro i d hid
        rcases Nat.lt_or_ge i ds.length with z | z
        · rw [List.getElem?_append_left z] at hid
          obtain ⟨w1, ws, w2, w3⟩ := hds i d hid
          refine ⟨w1, ws, by rw [List.getElem?_append_left (by omega)]; exact w2, ?_⟩
          rw [List.getElem?_set_ne (Ne.symm w1)]
          exact p3.at_ w3
        · rw [List.getElem?_append_right z] at hid
          have hi' : i - ds.length = 0 := by
            rcases Nat.eq_zero_or_pos (i - ds.length) with y | y
            · exact y
            · rw [List.getElem?_eq_none (by simp; omega)] at hid
              cases hid
          rw [hi'] at hid
          cases hid
          refine ⟨hne, v, ?_, ?_⟩
          · rw [List.getElem?_append_right (by omega), show i - pre.length = 0 by omega]
            rfl
          · rw [List.getElem?_set_ne (Ne.symm hne)]
            exact y3
  · rintro s2 ⟨pre, suf, ds, e1, e2, p2, x2, hd, hds⟩
    have hsuf : suf = [] := by simpa using e2.symm
    subst hsuf
    rw [List.append_nil] at e1
    subst e1
    simp only [Still.out]
    exact q s2 _ (p1.trans p2) ⟨ds, x2, hd, fun i d e => (hds i d e).2⟩
theorem forL_append {tg : MV → MEnv → MS → (MEnv → Prop) → Prop} {b : MEnv → MS → (MEnv → MS → Prop) → Prop} {t : Still} {nx : MEnv → MS → Prop} {B : List MV} (mono : ∀ (σ : MEnv) (s : MS) (k k' : MEnv → MS → Prop), (∀ σ s, k σ s → k' σ s) → b σ s k → b σ s k') (mtg : ∀ (x : MV) (σ : MEnv) (s : MS) (k k' : MEnv → Prop), (∀ σ, k σ → k' σ) → tg x σ s k → tg x σ s k') : ∀ {A : List MV} {σ : MEnv} {s : MS}, forL tg b t (fun σ s => forL tg b t nx B σ s) A σ s → forL tg b t nx (A ++ B) σ s
  | [], σ, s, h => h.2
  | x :: A, σ, s, h => ⟨h.1, mtg _ _ _ _ _ (fun σ1 h1 => mono _ _ _ _ (fun σ2 s2 h2 => forL_append mono mtg h2) h1) h.2⟩
/-- the keys of a table's text -/
def keysK (P : Nat) (L : List (Nat × Nat)) (wf : WF) : List (Nat × Nat × Option Nat) := (List.range P).flatMap fun p => (List.range P).flatMap fun g => if p = g then [] else (comes L p).filterMap fun c => if wf p g c = [] then none else some (p, g, c)
theorem tabT_keys (P : Nat) (L : List (Nat × Nat)) (wf : WF) : tabT P L wf = (["places", numS P] : List Str) :: (laneT L ++ (keysK P L wf).map fun k => wayT k.1 k.2.1 k.2.2 (wf k.1 k.2.1 k.2.2)) := by
  unfold tabT laneT keysK
  congr 2
  rw [List.map_flatMap]
  congr 1
  funext p
  rw [List.map_flatMap]
  congr 1
  funext g
  by_cases h : p = g
  · rw [if_pos h, if_pos h]
    rfl
  · rw [if_neg h, if_neg h]
    unfold wayRows
    rw [List.map_filterMap]
    congr 1
    funext c
    by_cases hn : wf p g c = [] <;> simp [hn]
theorem keysK_mem {P : Nat} {L : List (Nat × Nat)} {wf : WF} {p g : Nat} {c : Option Nat} : (p, g, c) ∈ keysK P L wf ↔ p < P ∧ g < P ∧ p ≠ g ∧ c ∈ comes L p ∧ wf p g c ≠ [] := by
  unfold keysK
  rw [List.mem_flatMap]
  constructor
  · rintro ⟨p', hp, h⟩
    obtain ⟨g', hg, h⟩ := List.mem_flatMap.mp h
    split at h
    · cases h
    · rename_i hne
      obtain ⟨c', hc, e⟩ := List.mem_filterMap.mp h
      split at e
      · cases e
      · rename_i hw
        cases e
        exact ⟨List.mem_range.mp hp, List.mem_range.mp hg, hne, hc, hw⟩
  · rintro ⟨hp, hg, hne, hc, hw⟩
    refine ⟨p, List.mem_range.mpr hp, List.mem_flatMap.mpr ⟨g, List.mem_range.mpr hg, ?_⟩⟩
    rw [if_neg hne]
    exact List.mem_filterMap.mpr ⟨c, hc, by rw [if_neg hw]⟩
theorem keysK_nodup (P : Nat) (L : List (Nat × Nat)) (wf : WF) : (keysK P L wf).Nodup := by
  unfold keysK List.Nodup
  have hr : (List.range P).Pairwise (· ≠ ·) := List.nodup_range
  rw [List.pairwise_flatMap]
  refine ⟨fun p _ => ?_, hr.imp fun {p p'} hne x hx y hy e => ?_⟩
  · rw [List.pairwise_flatMap]
    refine ⟨fun g _ => ?_, hr.imp fun {g g'} hne x hx y hy e => ?_⟩
    · split
      · exact .nil
      · rw [List.pairwise_filterMap]
        refine List.Pairwise.imp (fun {c c'} hne x hx y hy e => ?_) (into_nodup L p)
        split at hx <;> cases hx
        split at hy <;> cases hy
        cases e
        exact hne rfl
    · split at hx
      · cases hx
      · split at hy
        · cases hy
        · obtain ⟨c, _, e1⟩ := List.mem_filterMap.mp hx
          obtain ⟨c', _, e2⟩ := List.mem_filterMap.mp hy
          split at e1 <;> cases e1
          split at e2 <;> cases e2
          cases e
          exact hne rfl
  · obtain ⟨g, _, hx⟩ := List.mem_flatMap.mp hx
    obtain ⟨g', _, hy⟩ := List.mem_flatMap.mp hy
    split at hx
    · cases hx
    · split at hy
      · cases hy
      · obtain ⟨c, _, e1⟩ := List.mem_filterMap.mp hx
        obtain ⟨c', _, e2⟩ := List.mem_filterMap.mp hy
        split at e1 <;> cases e1
        split at e2 <;> cases e2
        cases e
        exact hne rfl
/-- what a text of a table tells, read -/
def wfR (P : Nat) (L : List (Nat × Nat)) (wf : WF) : WF := fun p g c => if (p, g, c) ∈ keysK P L wf then wf p g c else []
theorem wfR_at {P : Nat} {L : List (Nat × Nat)} {wf : WF} {p g : Nat} {c : Option Nat} (hp : p < P) (hg : g < P) (hne : p ≠ g) (hc : c ∈ comes L p) : wfR P L wf p g c = wf p g c := by
  unfold wfR
  by_cases h : wf p g c = []
  · rw [if_neg (fun z => (keysK_mem.mp z).2.2.2.2 h), h]
  · rw [if_pos (keysK_mem.mpr ⟨hp, hg, hne, hc, h⟩)]
theorem fm_congr {α β : Type} {l : List α} {f g : α → Option β} (h : ∀ x ∈ l, f x = g x) : l.filterMap f = l.filterMap g := by
  induction l with
  | nil => rfl
  | cons x r ih => rw [List.filterMap_cons, List.filterMap_cons, h x List.mem_cons_self, ih fun y hy => h y (List.mem_cons_of_mem _ hy)]
theorem tabT_R (P : Nat) (L : List (Nat × Nat)) (wf : WF) : tabT P L (wfR P L wf) = tabT P L wf := by
  unfold tabT
  congr 2
  have key : ∀ p ∈ List.range P, ∀ g ∈ List.range P, (if p = g then [] else wayRows L (wfR P L wf) p g) = if p = g then [] else wayRows L wf p g := by
    intro p hp g hg
    by_cases h : p = g
    · rw [if_pos h, if_pos h]
    · rw [if_neg h, if_neg h]
      unfold wayRows
      exact fm_congr fun c hc => by rw [wfR_at (List.mem_range.mp hp) (List.mem_range.mp hg) h hc]
  have fm : ∀ (l : List Nat) (f f' : Nat → List (List Str)), (∀ x ∈ l, f x = f' x) → l.flatMap f = l.flatMap f' := by
    intro l f f' h
    induction l with
    | nil => rfl
    | cons x r ih =>
      rw [List.flatMap_cons, List.flatMap_cons, h x List.mem_cons_self, ih fun y hy => h y (List.mem_cons_of_mem _ hy)]
  exact fm _ _ _ fun p hp => fm _ _ _ fun g hg => key p hp g hg
theorem WOk.R {P : Nat} {L : List (Nat × Nat)} {wf : WF} (h : WOk P L wf) : TOk P L (wfR P L wf) := by
  have t := h.t
  refine ⟨h.l, fun p g c hp hg x hx => ?_, fun p g c hp hg => ?_⟩
  · unfold wfR at hx
    split at hx
    · exact t.w p g c hp hg x hx
    · cases hx
  · unfold wfR
    split
    · exact t.f p g c hp hg
    · simp
theorem told_R {P : Nat} {L : List (Nat × Nat)} {wf : WF} (h : WOk P L wf) {rows : List Row} (hr : rows.map Row.key = keysK P L wf) (hw : ∀ r ∈ rows, r.ws = wf r.p r.g r.c) : toldW L.length rows = wfR P L wf := by
  funext p g c
  unfold toldW rowF wfR
  by_cases hk : (p, g, c) ∈ keysK P L wf
  · rw [if_pos hk]
    have hk2 := hk
    rw [← hr] at hk2
    obtain ⟨r, hrm, hre⟩ := List.mem_map.mp hk2
    have hsome : (rows.find? fun r => decide (r.key = (p, g, c))).isSome = true := by
      rw [List.find?_isSome]
      exact ⟨r, hrm, decide_eq_true hre⟩
    obtain ⟨r', hr'⟩ := Option.isSome_iff_exists.mp hsome
    have hrm' := List.mem_of_find?_eq_some hr'
    have hz : decide (r'.key = (p, g, c)) = true := List.find?_some (p := fun x : Row => decide (x.key = (p, g, c))) hr'
    have hke := of_decide_eq_true hz
    have e1 : r'.p = p := congrArg (·.1) hke
    have e2 : r'.g = g := congrArg (·.2.1) hke
    have e3 : r'.c = c := congrArg (·.2.2) hke
    rw [hr']
    simp only [Option.map_some, Option.getD_some]
    rw [hw r' hrm', e1, e2, e3]
    obtain ⟨hp, hg, _, _, _⟩ := keysK_mem.mp hk
    exact sortD_self (h.r p g c) fun x hx => h.t.w p g c hp hg x hx
  · rw [if_neg hk]
    have : rows.find? (fun r => decide (r.key = (p, g, c))) = none := by
      rw [List.find?_eq_none]
      intro r hrm z
      apply hk
      rw [← of_decide_eq_true z, ← hr]
      exact List.mem_map_of_mem hrm
    rw [this]
    rfl
end Ly
namespace Ly
open PySem L2 TL
open PyProof.Rows hiding St
theorem law_forapp {tg : MV → MEnv → MS → (MEnv → Prop) → Prop} {b : MEnv → MS → (MEnv → MS → Prop) → Prop} {t : Still} {nx : MEnv → MS → Prop} {α : Type} (mk : α → MV) (A B : List α) (I : Nat → MEnv → MS → Prop) (ok : ∀ i σ s, I i σ s → t.ok s)
    (stepA : ∀ i x σ s, A[i]? = some x → I i σ s → ∀ k : MEnv → MS → Prop, (∀ σ2 s2, I (i + 1) σ2 s2 → k σ2 s2) → tg (mk x) σ s fun σ1 => b σ1 s k)
    (stepB : ∀ i x σ s, B[i]? = some x → I (A.length + i) σ s → ∀ k : MEnv → MS → Prop, (∀ σ2 s2, I (A.length + (i + 1)) σ2 s2 → k σ2 s2) → tg (mk x) σ s fun σ1 => b σ1 s k)
    (done : ∀ σ s, I (A.length + B.length) σ s → nx σ s) {σ : MEnv} {s : MS} (h0 : I 0 σ s) : forL tg b t nx ((A ++ B).map mk) σ s := by
  refine forP mk I (A ++ B) (fun i σ s _ h => ok i σ s h) (fun i x σ s hx h k hk => ?_) (fun σ s h => done σ s (by rw [List.length_append] at h; exact h)) h0
  rcases Nat.lt_or_ge i A.length with z | z
  · rw [List.getElem?_append_left z] at hx
    exact stepA i x σ s hx h k hk
  · rw [List.getElem?_append_right z] at hx
    obtain ⟨j, rfl⟩ : ∃ j, i = A.length + j := ⟨i - A.length, by omega⟩
    rw [Nat.add_sub_cancel_left] at hx
    exact stepB j x σ s hx h k fun σ2 s2 h2 => hk σ2 s2 h2
def spTableOf : MSp := fun vs s Q _ => ∃ (m P : Nat) (L : List (Nat × Nat)) (wf : WF), vs = [.loc m] ∧ RowsL s m (tabT P L wf) ∧ WOk P L wf ∧ ∀ s' n, Pre s s' → s.length ≤ n → DictR 101 s' n P L (wfR P L wf) → FrT s.length s' n → Q (.loc n) s'
theorem law_tableof {Γ : Prg} (h106 : Γ 0 106 = some spNumber) (h108 : Γ 0 108 = some spEntry) (h17 : Γ 17 0 = some spLand) (h101 : Γ 101 0 = some spTold) : Law Γ d_table_of spTableOf := by
  rintro _ s Q R ⟨m, P, L, wf, rfl, ⟨ds, h1, h2, h3⟩, ok, q⟩
  refine ⟨rfl, ?_⟩
  have lk := ok.l
  have hP := lk.p2
  have hL := lk.l
  have tk := ok.t
  have hn6 := tabT_len (wf := wf) lk
  have big : ∀ {x : Nat}, x < 100 → x < 10 ^ 60 := fun h => Nat.lt_trans h (by decide)
  rw [tabT_keys] at h2 h3 hn6
  obtain ⟨d0, hd0⟩ : ∃ d0, ds[0]? = some d0 := ⟨_, List.getElem?_eq_getElem (by rw [h2]; simp)⟩
  obtain ⟨w0, hw0, x0⟩ := h3 0 d0 hd0
  have hw0' : w0 = (["places", numS P] : List Str) := by simpa using hw0.symm
  subst hw0'
  have a0 : atI (ds.map MV.loc) 0 = some (.loc d0) := by rw [at0]; simp [hd0]
  have b0 : atI ((["places", numS P] : List Str).map MV.str) 0 = some (.str "places") := by rw [at0]; rfl
  have b1 : atI ((["places", numS P] : List Str).map MV.str) 1 = some (.str (numS P)) := by rw [at1]; rfl
  show wpSs Γ b_table_of [some (.loc m), none, none, none] s _
  unfold b_table_of
  rw [wpSs_cons]
  simp only [wpS, wE_var, wE_non, wE_bl, wE_int, wE_str, wE_glo, wE_tup, wE_lst, wE_dnew, wE_ddisp, wE_bin, wE_neg, wE_cmp, wE_chn, wE_and, wE_or, wE_not, wE_ite, wE_fld, wE_ix, wE_sl, wE_call, wE_make, wE_meth, wE_sup, wE_bf, wE_bm, wE_isi, wE_fst, wpEs, List.getElem?_cons_zero, List.getElem?_cons_succ, ixW, h1, atW, a0, bfW, seqOf, x0, cmpW, eqW_int, eqW_str, b0]
  have e2 : decide (((((["places", numS P] : List Str).map MV.str).length : Nat) : Int) = 2) = true := rfl
  simp only [e2, Bool.not_true, decide_true, wpSs_nil]
  rw [wpSs_cons]
  simp only [wpS, wE_var, wE_non, wE_bl, wE_int, wE_str, wE_glo, wE_tup, wE_lst, wE_dnew, wE_ddisp, wE_bin, wE_neg, wE_cmp, wE_chn, wE_and, wE_or, wE_not, wE_ite, wE_fld, wE_ix, wE_sl, wE_call, wE_make, wE_meth, wE_sup, wE_bf, wE_bm, wE_isi, wE_fst, wpEs, tgW, List.set_cons_zero, List.set_cons_succ]
  refine ⟨sz0, ?_⟩
  have p1 : Pre s (s ++ [MO.lst []]) := Pre.add _
  have l1 : (s ++ [MO.lst []])[s.length]? = some (.lst []) := at_end
  have n1 : s.length < (s ++ [MO.lst []]).length := by simp
  show wpSs Γ _ _ (s ++ [MO.lst []]) _
  generalize s ++ [MO.lst []] = s1 at p1 l1 n1
  rw [wpSs_cons]
  simp only [wpS, wE_var, wE_non, wE_bl, wE_int, wE_str, wE_glo, wE_tup, wE_lst, wE_dnew, wE_ddisp, wE_bin, wE_neg, wE_cmp, wE_chn, wE_and, wE_or, wE_not, wE_ite, wE_fld, wE_ix, wE_sl, wE_call, wE_make, wE_meth, wE_sup, wE_bf, wE_bm, wE_isi, wE_fst, wpEs, tgW, List.set_cons_zero, List.set_cons_succ]
  refine ⟨sz0, ?_⟩
  have p2 : Pre s (s1 ++ [MO.lst []]) := p1.trans (Pre.add _)
  have l2 : (s1 ++ [MO.lst []])[s.length]? = some (.lst ((L.take 0).map prM)) := (Pre.add _).at_ l1
  have r2 : RowsAt (s1 ++ [MO.lst []]) s1.length s.length [] := ⟨at_end, fun _ z => nomatch z⟩
  show wpSs Γ _ _ (s1 ++ [MO.lst []]) _
  have n2 : s1.length < (s1 ++ [MO.lst []]).length := by simp
  generalize s1 ++ [MO.lst []] = s2 at p2 l2 r2 n2
  obtain ⟨e, he⟩ : ∃ e, e = s1.length := ⟨_, rfl⟩
  rw [← he] at r2 n2 ⊢
  have hle : s.length < e := by rw [he]; exact n1
  clear he l1 p1 n1
  rw [wpSs_cons]
  have hcut : cutM (ds.map MV.loc) (some 1) none = (ds.drop 1).map .loc := by
    have h4 : (1 : Int) = ((1 : Nat) : Int) := rfl
    rw [h4, cut_from (by rw [List.length_map, h2]; simp), List.map_drop]
  simp only [wpS, wpI, wE_var, wE_non, wE_bl, wE_int, wE_str, wE_glo, wE_tup, wE_lst, wE_dnew, wE_ddisp, wE_bin, wE_neg, wE_cmp, wE_chn, wE_and, wE_or, wE_not, wE_ite, wE_fld, wE_ix, wE_sl, wE_call, wE_make, wE_meth, wE_sup, wE_bf, wE_bm, wE_isi, wE_fst, wpO, List.getElem?_cons_zero, List.getElem?_cons_succ, slW, p2.at_ h1, hcut]
  have x3 : (s2 ++ [MO.lst ((ds.drop 1).map MV.loc)])[s2.length]? = some (.lst ((ds.drop 1).map .loc)) := at_end
  have p3 : Pre s (s2 ++ [MO.lst ((ds.drop 1).map MV.loc)]) := p2.trans (Pre.add _)
  have l3 := (Pre.add [MO.lst ((ds.drop 1).map MV.loc)]).at_ l2
  have r3 : RowsAt (s2 ++ [MO.lst ((ds.drop 1).map MV.loc)]) e s.length [] := ⟨(Pre.add _).at_ r2.1, fun _ z => nomatch z⟩
  have hne1 : s2.length ≠ s.length := by have := lt_of_at l2; omega
  have hne2 : s2.length ≠ e := by omega
  generalize s2 ++ [MO.lst ((ds.drop 1).map MV.loc)] = s3 at x3 p3 l3 r3
  generalize s2.length = t at x3 hne1 hne2
  simp only [seqIt, x3]
  have hlk : ∀ (i d : Nat), (ds.drop 1)[i]? = some d → ∃ ws : List Str, (laneT L ++ (keysK P L wf).map fun k => wayT k.1 k.2.1 k.2.2 (wf k.1 k.2.1 k.2.2))[i]? = some ws ∧ s[d]? = some (.lst (ws.map .str)) := fun i d hid => by
    rw [List.getElem?_drop] at hid
    obtain ⟨ws, e1, e2⟩ := h3 (1 + i) d hid
    refine ⟨ws, ?_, e2⟩
    rw [show 1 + i = i + 1 by omega, List.getElem?_cons_succ] at e1
    exact e1
  have hdl : (ds.drop 1).length = L.length + (keysK P L wf).length := by
    rw [List.length_drop, h2]
    unfold laneT
    simp
  have hkl : (keysK P L wf).length ≤ 6000 := by
    simp at hn6
    omega
  refine forP (t := .obj t ((ds.drop 1).map .loc)) MV.loc (fun i σ s' => ∃ (a : Option MV) (rows : List Row), σ = [some (.loc m), some (.loc s.length), some (.loc e), a] ∧ Pre s s' ∧ s'[t]? = some (.lst ((ds.drop 1).map .loc)) ∧ s'[s.length]? = some (.lst ((L.take i).map prM)) ∧ RowsAt s' e s.length rows ∧ rows.map Row.key = (keysK P L wf).take (i - L.length) ∧ ∀ r ∈ rows, r.ws = wf r.p r.g r.c) (ds.drop 1)
    (fun _ _ _ _ h' => by obtain ⟨_, _, _, _, z, _⟩ := h'; exact z) ?_ ?_ ⟨_, [], rfl, p3, x3, l3, r3, by simp, fun _ z => nomatch z⟩
  · rintro i d σ s4 hid ⟨a, rows, rfl, p4, x4, l4, r4, hk4, hw4⟩ k hk
    obtain ⟨ws, hws, xd⟩ := hlk i d hid
    have yd := p4.at_ xd
    simp only [tgW, List.set_cons_zero, List.set_cons_succ]
    rw [wpSs_cons]
    rcases Nat.lt_or_ge i L.length with hi | hi
    · obtain ⟨qq, hq⟩ : ∃ qq, L[i]? = some qq := ⟨_, List.getElem?_eq_getElem hi⟩
      have hwe : ws = (["lane", numS qq.1, numS qq.2] : List Str) := by
        rw [List.getElem?_append_left (by unfold laneT; simpa using hi)] at hws
        unfold laneT at hws
        rw [List.getElem?_map, hq] at hws
        simpa using hws.symm
      subst hwe
      obtain ⟨hq1, hq2, _⟩ := lk.lt qq (List.mem_of_getElem? hq)
      have c0 : atI ((["lane", numS qq.1, numS qq.2] : List Str).map MV.str) 0 = some (.str "lane") := by rw [at0]; rfl
      have c1 : atI ((["lane", numS qq.1, numS qq.2] : List Str).map MV.str) 1 = some (.str (numS qq.1)) := by rw [at1]; rfl
      have c2 : atI ((["lane", numS qq.1, numS qq.2] : List Str).map MV.str) 2 = some (.str (numS qq.2)) := by rw [at2]; rfl
      have c3 : decide (((((["lane", numS qq.1, numS qq.2] : List Str).map MV.str).length : Nat) : Int) = 3) = true := rfl
      simp only [wpS, wE_var, wE_non, wE_bl, wE_int, wE_str, wE_glo, wE_tup, wE_lst, wE_dnew, wE_ddisp, wE_bin, wE_neg, wE_cmp, wE_chn, wE_and, wE_or, wE_not, wE_ite, wE_fld, wE_ix, wE_sl, wE_call, wE_make, wE_meth, wE_sup, wE_bf, wE_bm, wE_isi, wE_fst, wpEs, List.getElem?_cons_zero, List.getElem?_cons_succ, ixW, yd, atW, c0, cmpW, eqW_str, decide_true, bfW, seqOf, eqW_int, c3]
      rw [wpSs_cons]
      simp only [wpS, wE_var, wE_non, wE_bl, wE_int, wE_str, wE_glo, wE_tup, wE_lst, wE_dnew, wE_ddisp, wE_bin, wE_neg, wE_cmp, wE_chn, wE_and, wE_or, wE_not, wE_ite, wE_fld, wE_ix, wE_sl, wE_call, wE_make, wE_meth, wE_sup, wE_bf, wE_bm, wE_isi, wE_fst, wpEs, List.getElem?_cons_zero, List.getElem?_cons_succ, kindM, l4, bmK, ixW, yd, atW, c1, c2, callW, h106, dflt_nil, List.append_nil]
      refine ⟨trivial, qq.1, rfl, big (by omega), fun s5 p5 => ?_⟩
      simp only [p5.at_ yd, c2]
      refine ⟨qq.2, rfl, big (by omega), fun s6 p6 => ⟨sz2, ?_⟩⟩
      have p46 := p5.trans p6
      have l6 := p46.at_ l4
      simp only [bmW, l6, wpSs_nil]
      have hel : e ≠ s.length := by omega
      refine ⟨by rw [List.length_map, List.length_take]; simp [sizeLine]; omega, hk _ _ ⟨_, rows, rfl, (p4.trans p46).set (Nat.le_refl _) _, ?_, ?_, ⟨?_, fun r hr => ?_⟩, ?_, hw4⟩⟩
      · rw [List.getElem?_set_ne (Ne.symm hne1)]
        exact p46.at_ x4
      · rw [List.getElem?_set_self (lt_of_at l6), List.take_add_one, hq]
        simp [prM]
      · rw [List.getElem?_set_ne (by omega)]
        exact p46.at_ r4.1
      · obtain ⟨w1, w2, w3⟩ := r4.2 r hr
        have : rows = [] := by
          have := congrArg List.length hk4
          rw [show i - L.length = 0 by omega] at this
          simpa using this
        rw [this] at hr
        cases hr
      · rw [hk4, show i - L.length = 0 by omega, show i + 1 - L.length = 0 by omega]
    · obtain ⟨j, rfl⟩ : ∃ j, i = L.length + j := ⟨i - L.length, by omega⟩
      have hll : (laneT L).length = L.length := by unfold laneT; simp
      rw [List.getElem?_append_right (by omega), hll, Nat.add_sub_cancel_left, List.getElem?_map] at hws
      obtain ⟨kk, hkk⟩ : ∃ kk, (keysK P L wf)[j]? = some kk := by
        cases e9 : (keysK P L wf)[j]? with
        | none => rw [e9] at hws; cases hws
        | some kk => exact ⟨kk, rfl⟩
      rw [hkk] at hws
      obtain ⟨kp, kg, kc⟩ := kk
      have hwe : ws = wayT kp kg kc (wf kp kg kc) := by simpa using hws.symm
      subst hwe
      obtain ⟨hp, hg, hne, hc, hnil⟩ := keysK_mem.mp (List.mem_of_getElem? hkk)
      have c0 : atI ((wayT kp kg kc (wf kp kg kc)).map MV.str) 0 = some (.str "way") := by rw [at0]; rfl
      have hlen : ((wayT kp kg kc (wf kp kg kc)).map MV.str).length = 4 + (wf kp kg kc).length := by unfold wayT; simp; omega
      have hw1 : 0 < (wf kp kg kc).length := List.length_pos_iff.mpr hnil
      have c4 : decide ((4 : Int) < ((((wayT kp kg kc (wf kp kg kc)).map MV.str).length : Nat) : Int)) = true := by
        rw [hlen]
        exact decide_eq_true (by omega)
      have cl : decide (("way" : Str) = "lane") = false := by decide +kernel
      simp only [wpS, wE_var, wE_non, wE_bl, wE_int, wE_str, wE_glo, wE_tup, wE_lst, wE_dnew, wE_ddisp, wE_bin, wE_neg, wE_cmp, wE_chn, wE_and, wE_or, wE_not, wE_ite, wE_fld, wE_ix, wE_sl, wE_call, wE_make, wE_meth, wE_sup, wE_bf, wE_bm, wE_isi, wE_fst, wpEs, List.getElem?_cons_zero, List.getElem?_cons_succ, ixW, yd, atW, c0, cmpW, eqW_str, cl]
      rw [wpSs_cons]
      simp only [wpS, wE_var, wE_non, wE_bl, wE_int, wE_str, wE_glo, wE_tup, wE_lst, wE_dnew, wE_ddisp, wE_bin, wE_neg, wE_cmp, wE_chn, wE_and, wE_or, wE_not, wE_ite, wE_fld, wE_ix, wE_sl, wE_call, wE_make, wE_meth, wE_sup, wE_bf, wE_bm, wE_isi, wE_fst, wpEs, List.getElem?_cons_zero, List.getElem?_cons_succ, ixW, yd, atW, c0, cmpW, eqW_str, decide_true, bfW, seqOf, c4]
      rw [wpSs_cons]
      simp only [wpS, wE_var, wE_non, wE_bl, wE_int, wE_str, wE_glo, wE_tup, wE_lst, wE_dnew, wE_ddisp, wE_bin, wE_neg, wE_cmp, wE_chn, wE_and, wE_or, wE_not, wE_ite, wE_fld, wE_ix, wE_sl, wE_call, wE_make, wE_meth, wE_sup, wE_bf, wE_bm, wE_isi, wE_fst, wpEs, List.getElem?_cons_zero, List.getElem?_cons_succ, kindM, r4.1, bmK, callW, h108, dflt_nil, List.append_nil]
      refine ⟨trivial, d, kp, kg, kc, wf kp kg kc, rfl, yd, by omega, by omega, fun x hx => ?_, fun x hx => ?_, ?_, fun s5 w n5 => ?_⟩
      · subst hx
        have := into_mem (comes_mem hc)
        omega
      · have := tk.w kp kg kc hp hg x hx
        omega
      · have := tk.f kp kg kc hp hg
        omega
      · obtain ⟨p5, l5, x5⟩ := n5
        have r5 := p5.at_ r4.1
        have hrl : rows.length ≤ 6000 := by
          have := congrArg List.length hk4
          rw [List.length_map, List.length_take] at this
          omega
        have hwe : e < w := by have := lt_of_at r4.1; omega
        simp only [bmW, r5, wpSs_nil]
        refine ⟨by rw [List.length_map]; simp [sizeLine]; omega, hk _ _ ⟨_, rows ++ [(⟨kp, kg, kc, wf kp kg kc, w⟩ : Row)], rfl, (p4.trans p5).set (by omega) _, ?_, ?_, ⟨?_, fun r hr => ?_⟩, ?_, fun r hr => ?_⟩⟩
        · rw [List.getElem?_set_ne (Ne.symm hne2)]
          exact p5.at_ x4
        · rw [List.getElem?_set_ne (by omega), p5.at_ l4, List.take_of_length_le (by omega), List.take_of_length_le (by omega)]
        · rw [List.getElem?_set_self (lt_of_at r5)]
          simp [rowM]
        · rcases List.mem_append.mp hr with z | z
          · obtain ⟨w1, w2, w3⟩ := r4.2 r z
            exact ⟨w1, w2, by rw [List.getElem?_set_ne (Ne.symm w2)]; exact p5.at_ w3⟩
          · have : r = ⟨kp, kg, kc, wf kp kg kc, w⟩ := by simpa using z
            subst this
            exact ⟨by simp only; omega, by simp only; omega, by rw [List.getElem?_set_ne (by simp only; omega)]; exact x5⟩
        · rw [List.map_append, hk4, Nat.add_sub_cancel_left, show L.length + j + 1 - L.length = j + 1 by omega, List.take_add_one, hkk]
          rfl
        · rcases List.mem_append.mp hr with z | z
          · exact hw4 r z
          · have : r = ⟨kp, kg, kc, wf kp kg kc, w⟩ := by simpa using z
            subst this
            rfl
  · rintro σ s4 ⟨a, rows, rfl, p4, x4, l4, r4, hk4, hw4⟩
    simp only [Still.out]
    rw [hdl, Nat.add_sub_cancel_left, List.take_length] at hk4
    rw [hdl, List.take_of_length_le (by omega)] at l4
    have h17' : Γ 17 iInit = some spLand := h17
    have h101' : Γ 101 iInit = some spTold := h101
    rw [wpSs_cons]
    simp only [wpS, wE_var, wE_non, wE_bl, wE_int, wE_str, wE_glo, wE_tup, wE_lst, wE_dnew, wE_ddisp, wE_bin, wE_neg, wE_cmp, wE_chn, wE_and, wE_or, wE_not, wE_ite, wE_fld, wE_ix, wE_sl, wE_call, wE_make, wE_meth, wE_sup, wE_bf, wE_bm, wE_isi, wE_fst, wpEs, mr_Told_init, mr_Land_init, callW, h101', h17', h106, dflt_nil, List.append_nil, List.getElem?_cons_zero, List.getElem?_cons_succ, ixW, p4.at_ h1, atW, a0, p4.at_ x0, b1]
    refine ⟨P, rfl, big (by omega), fun s5 p5 => ?_⟩
    have l5 := p5.at_ l4
    refine ⟨s5.length, s.length, P, L, rfl, by have := lt_of_at l5; omega, at_end, (Pre.add _).at_ l5, lk, rfl, ?_⟩
    rw [List.set_append_right _ _ (Nat.le_refl _)]
    simp only [Nat.sub_self, List.set_cons_zero]
    have p6 : Pre s4 (s5 ++ [MO.ins 17 (landFs P L)]) := p5.trans (Pre.add _)
    have x6 : LandR (s5 ++ [MO.ins 17 (landFs P L)]) s5.length P L := at_end
    generalize s5 ++ [MO.ins 17 (landFs P L)] = s6 at p6 x6
    have p06 := p4.trans p6
    have hrl : rows.length ≤ 6000 := by
      have := congrArg List.length hk4
      rw [List.length_map] at this
      omega
    have hkey : ∀ r ∈ rows, r.p < P ∧ r.g < P ∧ r.p ≠ r.g ∧ r.c ∈ comes L r.p ∧ wf r.p r.g r.c ≠ [] := fun r hr => by
      have : r.key ∈ keysK P L wf := by rw [← hk4]; exact List.mem_map_of_mem hr
      exact keysK_mem.mp this
    refine ⟨s6, s6.length, s5.length, e, s.length, P, L, rows, rfl, ⟨Pre.add _, Nat.le_refl _, at_end⟩, x6, lk, ⟨p6.at_ r4.1, fun r hr => ?_⟩, hrl, ⟨fun r hr => ?_, by rw [hk4]; exact keysK_nodup _ _ _⟩, fun s7 p7 t7 f7 => ⟨rfl, ?_⟩⟩
    · obtain ⟨w1, w2, w3⟩ := r4.2 r hr
      exact ⟨w1, w2, p6.at_ w3⟩
    · obtain ⟨g1, g2, g3, g4, g5⟩ := hkey r hr
      refine ⟨g1, g2, g3, fun i hi => ?_, fun x hx => ?_, ?_⟩
      · rw [hi] at g4
        exact comes_mem g4
      · rw [hw4 r hr] at hx
        exact ok.o _ _ _ g1 g2 x hx
      · rw [hw4 r hr]
        exact tk.f _ _ _ g1 g2
    · rw [told_R ok hk4 hw4] at t7
      exact q s7 s6.length (p06.trans p7) p06.len t7 (f7.le p06.len)
def spRead : MSp := fun vs s Q _ => ∃ (P : Nat) (L : List (Nat × Nat)) (wf : WF), vs = [.str (textT (tabT P L wf))] ∧ WOk P L wf ∧ ∀ s' n, Pre s s' → s.length ≤ n → DictR 101 s' n P L (wfR P L wf) → Q (.loc n) s'
theorem law_read {Γ : Prg} (h110 : Γ 0 110 = some spRowsOf) (h109 : Γ 0 109 = some spTableOf) (h105 : Γ 0 105 = some spTableText) : Law Γ d_read_table spRead := by
  rintro _ s Q R ⟨P, L, wf, rfl, ok, q⟩
  refine ⟨rfl, ?_⟩
  show wpSs Γ b_read_table [some (.str (textT (tabT P L wf))), none, none] s _
  unfold b_read_table
  rw [wpSs_cons]
  simp only [wpS, wE_var, wE_non, wE_bl, wE_int, wE_str, wE_glo, wE_tup, wE_lst, wE_dnew, wE_ddisp, wE_bin, wE_neg, wE_cmp, wE_chn, wE_and, wE_or, wE_not, wE_ite, wE_fld, wE_ix, wE_sl, wE_call, wE_make, wE_meth, wE_sup, wE_bf, wE_bm, wE_isi, wE_fst, wpEs, List.getElem?_cons_zero, List.getElem?_cons_succ, callW, h110, dflt_nil, List.append_nil]
  refine ⟨tabT P L wf, rfl, by unfold tabT; simp, tabT_ok ok.t, Nat.le_trans (tabT_len ok.l) (by decide), fun s1 m p1 hr => ?_⟩
  simp only [tgW, List.set_cons_zero, List.set_cons_succ]
  rw [wpSs_cons]
  simp only [wpS, wE_var, wE_non, wE_bl, wE_int, wE_str, wE_glo, wE_tup, wE_lst, wE_dnew, wE_ddisp, wE_bin, wE_neg, wE_cmp, wE_chn, wE_and, wE_or, wE_not, wE_ite, wE_fld, wE_ix, wE_sl, wE_call, wE_make, wE_meth, wE_sup, wE_bf, wE_bm, wE_isi, wE_fst, tgW, List.set_cons_zero, List.set_cons_succ]
  rw [wpSs_cons]
  simp only [wpS]
  rw [wpSs_cons]
  simp only [wpS, wE_var, wE_non, wE_bl, wE_int, wE_str, wE_glo, wE_tup, wE_lst, wE_dnew, wE_ddisp, wE_bin, wE_neg, wE_cmp, wE_chn, wE_and, wE_or, wE_not, wE_ite, wE_fld, wE_ix, wE_sl, wE_call, wE_make, wE_meth, wE_sup, wE_bf, wE_bm, wE_isi, wE_fst, wpEs, List.getElem?_cons_zero, List.getElem?_cons_succ, callW, h109, dflt_nil, List.append_nil]
  refine ⟨m, P, L, wf, rfl, hr, ok, fun s2 n p2 hn t2 _ => ?_⟩
  simp only [tgW, List.set_cons_zero, List.set_cons_succ, wpSs_nil]
  rw [wpSs_cons]
  simp only [wpS, wE_var, wE_non, wE_bl, wE_int, wE_str, wE_glo, wE_tup, wE_lst, wE_dnew, wE_ddisp, wE_bin, wE_neg, wE_cmp, wE_chn, wE_and, wE_or, wE_not, wE_ite, wE_fld, wE_ix, wE_sl, wE_call, wE_make, wE_meth, wE_sup, wE_bf, wE_bm, wE_isi, wE_fst, wpEs, List.getElem?_cons_zero, List.getElem?_cons_succ, callW, h105, dflt_nil, List.append_nil]
  refine ⟨n, P, L, wfR P L wf, rfl, .told t2, ok.R, fun s3 p3 => ?_⟩
  rw [tabT_R]
  simp only [cmpW, eqW_str, decide_true, Bool.not_true, wpSs_nil]
  rw [wpSs_cons]
  simp only [wpS, wE_var, wE_non, wE_bl, wE_int, wE_str, wE_glo, wE_tup, wE_lst, wE_dnew, wE_ddisp, wE_bin, wE_neg, wE_cmp, wE_chn, wE_and, wE_or, wE_not, wE_ite, wE_fld, wE_ix, wE_sl, wE_call, wE_make, wE_meth, wE_sup, wE_bf, wE_bm, wE_isi, wE_fst, List.getElem?_cons_zero, List.getElem?_cons_succ]
  have t3 : DictR 101 s3 n P L (wfR P L wf) := by
    obtain ⟨fs, ln, d, kvs, g1, g2, g3, g4, g5, g6⟩ := t2.at_
    refine ⟨⟨fs, ln, d, kvs, p3.at_ g1, g2, g3.mono p3, g4, p3.at_ g5, fun p g c => ?_⟩, t2.ok, t2.k⟩
    rcases g6 p g c with ⟨l, e1, e2⟩ | e
    · exact .inl ⟨l, e1, p3.at_ e2⟩
    · exact .inr e
  exact q s3 n ((p1.trans p2).trans p3) (by have := p1.len; omega) t3
end Ly
namespace Ly
open PySem L2
open PyProof.Rows hiding St
/-- if t: x.append(e) -/
theorem ife_app {Γ : Prg} {i m : Nat} {t e : Ly.E} {σ : MEnv} {s : MS} {D : MD} {xs : List MV} {v : MV} (c : Bool) (ht : ∀ (Q : QV) (R : QX), Q (.bl c) s → wpE Γ t σ s Q R) (he : c = true → ∀ (Q : QV) (R : QX), Q v s → wpE Γ e σ s Q R)
    (hi : σ[i]? = some (some (.loc m))) (hx : s[m]? = some (.lst xs)) (hl : xs.length < sizeLine)
    (q : ∀ s', (∀ s0, Pre s0 s → s0.length ≤ m → Pre s0 s') → s'[m]? = some (.lst (xs ++ if c = true then [v] else [])) → (∀ i, i ≠ m → s'[i]? = s[i]?) → D.nx σ s') :
    wpS Γ (.ife t (.cons (.ex (.bm .append (.var i) (.cons e .nil))) .nil) .nil) σ s D := by
  simp only [wpS]
  refine ht _ _ ?_
  cases c with
  | true =>
    simp only []
    rw [wpSs_cons]
    simp only [wpS, wpE, wpEs, hi, kindM, hx, bmK]
    refine ⟨trivial, he rfl _ _ ?_⟩
    simp only [bmW, hx, wpSs_nil]
    refine ⟨hl, q _ (fun s0 p l => p.set l _) (by rw [List.getElem?_set_self (lt_of_at hx)]; simp) fun i h => List.getElem?_set_ne (Ne.symm h)⟩
  | false =>
    simp only [wpSs_nil]
    exact q s (fun _ p _ => p) (by simpa using hx) fun _ _ => rfl
def rowAt (w h p : Nat) : List (Nat × Nat) := (if p % w + 1 < w then [(p, p + 1)] else []) ++ ((if 0 < p % w then [(p, p - 1)] else []) ++ ((if p / w + 1 < h then [(p, p + w)] else []) ++ (if 0 < p / w then [(p, p - w)] else [])))
def rowTo (w h k : Nat) : List (Nat × Nat) := (List.range k).flatMap (rowAt w h)
theorem rowTo_succ {w h k : Nat} : rowTo w h (k + 1) = rowTo w h k ++ rowAt w h k := by
  unfold rowTo
  rw [List.range_succ, List.flatMap_append]
  simp
theorem rowAt_len {w h p : Nat} : (rowAt w h p).length ≤ 4 := by
  unfold rowAt
  split <;> split <;> split <;> split <;> simp
theorem rowTo_len {w h k : Nat} : (rowTo w h k).length ≤ 4 * k := by
  induction k with
  | zero => simp [rowTo]
  | succ k ih =>
    rw [rowTo_succ, List.length_append]
    have := rowAt_len (w := w) (h := h) (p := k)
    omega
def spJoined : MSp := fun vs s Q _ => ∃ (w h : Nat), vs = [.int (w : Nat), .int (h : Nat)] ∧ 1 ≤ w ∧ 1 ≤ h ∧ w * h ≤ 12 ∧ ∀ s' m, NewL s s' m ((rowL w h).map prM) → Q (.loc m) s'
theorem law_joined {Γ : Prg} : Law Γ d_joined spJoined := by
  rintro _ s Q R ⟨w, h, rfl, hw, hh, hwh, q⟩
  refine ⟨rfl, ?_⟩
  have hw12 : w ≤ 12 := Nat.le_trans (Nat.le_mul_of_pos_right _ hh) hwh
  have hh12 : h ≤ 12 := Nat.le_trans (Nat.le_mul_of_pos_left _ hw) hwh
  show wpSs Γ b_joined (stM b_joined_N [.int (w : Nat), .int (h : Nat)]) s _
  unfold b_joined
  rw [wpSs_cons]
  simp [b_joined_N, stM, wpS, wpE, wpEs, tgW]
  rw [wpSs_cons]
  have ew : ((w : Nat) : Int) * ((h : Nat) : Int) = ((w * h : Nat) : Int) := by simp
  simp only [wpS, wpI, wpE, wpEs, List.getElem?_cons_zero, List.getElem?_cons_succ, binW, ew]
  refine ⟨?_, ⟨by omega, by omega⟩, ?_⟩
  · unfold CMul
    omega
  rw [rng_nats]
  refine forP (t := .free) (fun i : Nat => MV.int (i : Nat)) (fun i σ s' => ∃ a b c, σ = [some (.int (w : Nat)), some (.int (h : Nat)), some (.loc s.length), a, b, c] ∧ Pre s s' ∧ s'[s.length]? = some (.lst ((rowTo w h i).map prM))) (List.range (w * h)) (fun _ _ _ _ _ => trivial) ?_ ?_ ⟨none, none, none, rfl, Pre.add _, at_end⟩
  · rintro i p σ s1 hx ⟨a, b, c, rfl, m1, e1⟩ k hk
    obtain ⟨hil, hx2⟩ := List.getElem?_eq_some_iff.mp hx
    have hi : i < w * h := by simpa using hil
    have hpe : p = i := by rw [← hx2]; simp
    subst hpe
    simp only [tgW, List.set_cons_zero, List.set_cons_succ]
    rw [wpSs_cons]
    have hl0 := rowTo_len (w := w) (h := h) (k := p)
    have e4 : ((p : Nat) : Int) / ((w : Nat) : Int) = ((p / w : Nat) : Int) := by simp
    have e5 : ((p : Nat) : Int) % ((w : Nat) : Int) = ((p % w : Nat) : Int) := by simp
    simp only [wpS, wpE, wpEs, List.getElem?_cons_zero, List.getElem?_cons_succ, bfW, e4, e5, tgW, tgsW, List.set_cons_zero, List.set_cons_succ]
    refine ⟨⟨by omega, by omega⟩, trivial, ?_⟩
    rw [wpSs_cons]
    have hz : ∀ x : List MV, x.length ≤ 100 → x.length < sizeLine := fun x hx => by simp [sizeLine]; omega
    refine ife_app (decide (p % w + 1 < w)) (v := prM (p, p + 1)) (fun Q R hq => ?_) (fun _ Q R hq => ?_) rfl e1 (hz _ (by simp; omega)) fun s2 k2 x2 _ => ?_
    · simp only [wpE, List.getElem?_cons_zero, List.getElem?_cons_succ, binW, cmpW]
      have : decide (((p % w : Nat) : Int) + 1 < (w : Nat)) = decide (p % w + 1 < w) := decide_eq_decide.mpr (by omega)
      rw [this]
      exact hq
    · simp only [wpE, wpEs, List.getElem?_cons_zero, List.getElem?_cons_succ, binW]
      exact ⟨sz2, hq⟩
    have m2 := k2 s m1 (Nat.le_refl _)
    clear k2
    simp only []
    rw [wpSs_cons]
    refine ife_app (decide (0 < p % w)) (v := prM (p, p - 1)) (fun Q R hq => ?_) (fun hc Q R hq => ?_) rfl x2 (hz _ (by rw [List.length_append, List.length_map]; split <;> simp <;> omega)) fun s3 k3 x3 _ => ?_
    · simp only [wpE, List.getElem?_cons_zero, List.getElem?_cons_succ, cmpW]
      have : decide ((0 : Int) < ((p % w : Nat) : Int)) = decide (0 < p % w) := decide_eq_decide.mpr (by omega)
      rw [this]
      exact hq
    · have hc := of_decide_eq_true hc
      have hp : p % w ≤ p := Nat.mod_le _ _
      simp only [wpE, wpEs, List.getElem?_cons_zero, List.getElem?_cons_succ, binW]
      have : ((p : Nat) : Int) - 1 = ((p - 1 : Nat) : Int) := by omega
      rw [this]
      exact ⟨sz2, hq⟩
    have m3 := k3 s m2 (Nat.le_refl _)
    clear k3
    simp only []
    rw [wpSs_cons]
    refine ife_app (decide (p / w + 1 < h)) (v := prM (p, p + w)) (fun Q R hq => ?_) (fun hc Q R hq => ?_) rfl x3 (hz _ (by rw [List.length_append, List.length_append, List.length_map]; split <;> split <;> simp <;> omega)) fun s4 k4 x4 _ => ?_
    · simp only [wpE, List.getElem?_cons_zero, List.getElem?_cons_succ, binW, cmpW]
      have : decide (((p / w : Nat) : Int) + 1 < (h : Nat)) = decide (p / w + 1 < h) := decide_eq_decide.mpr (by omega)
      rw [this]
      exact hq
    · simp only [wpE, wpEs, List.getElem?_cons_zero, List.getElem?_cons_succ, binW]
      exact ⟨sz2, hq⟩
    have m4 := k4 s m3 (Nat.le_refl _)
    clear k4
    simp only []
    rw [wpSs_cons]
    refine ife_app (decide (0 < p / w)) (v := prM (p, p - w)) (fun Q R hq => ?_) (fun hc Q R hq => ?_) rfl x4 (hz _ (by rw [List.length_append, List.length_append, List.length_append, List.length_map]; split <;> split <;> split <;> simp <;> omega)) fun s5 k5 x5 _ => ?_
    · simp only [wpE, List.getElem?_cons_zero, List.getElem?_cons_succ, cmpW]
      have : decide ((0 : Int) < ((p / w : Nat) : Int)) = decide (0 < p / w) := decide_eq_decide.mpr (by omega)
      rw [this]
      exact hq
    · have hc := of_decide_eq_true hc
      have hp : w ≤ p := by
        rcases Nat.lt_or_ge p w with z | z
        · rw [Nat.div_eq_of_lt z] at hc
          omega
        · exact z
      simp only [wpE, wpEs, List.getElem?_cons_zero, List.getElem?_cons_succ, binW]
      have : ((p : Nat) : Int) - ((w : Nat) : Int) = ((p - w : Nat) : Int) := by omega
      rw [this]
      exact ⟨sz2, hq⟩
    have m5 := k5 s m4 (Nat.le_refl _)
    clear k5
    simp only []
    rw [wpSs_nil]
    refine hk _ _ ⟨_, _, _, rfl, m5, ?_⟩
    rw [x5, rowTo_succ]
    unfold rowAt
    have hif : ∀ (c : Prop) [Decidable c] (q : Nat × Nat), (if decide c = true then [prM q] else []) = (if c then [q] else []).map prM := fun c _ q => by
      by_cases h : c <;> simp [h]
    simp only [hif, List.map_append, List.append_assoc]
  · rintro σ s1 ⟨a, b, c, rfl, m1, e1⟩
    simp only [Still.out]
    rw [wpSs_cons]
    simp only [wpS, wpE, List.getElem?_cons_zero, List.getElem?_cons_succ]
    rw [List.length_range] at e1
    exact q s1 _ ⟨m1, Nat.le_refl _, e1⟩
def spRowInit : MSp := fun vs s Q _ => ∃ (s0 : MS) (n w h : Nat), vs = [.loc n, .int (w : Nat), .int (h : Nat)] ∧ NewI s0 s n 36 ∧ 1 ≤ w ∧ 1 ≤ h ∧ w * h ≤ 12 ∧ ∀ s', Pre s0 s' → RowR s' n w h → FrT s0.length s' n → Q .non s'
theorem law_rowinit {Γ : Prg} (h24 : Γ 24 0 = some spTabI) (h17 : Γ 17 0 = some spLand) (h35 : Γ 0 35 = some spJoined) : Law Γ d_RowFirst_init spRowInit := by
  rintro _ s Q R ⟨s0, n, w, h, rfl, ⟨hp, hn, hi⟩, hw, hh, hwh, q⟩
  refine ⟨rfl, ?_⟩
  have h17' : Γ 17 iInit = some spLand := h17
  show wpSs Γ b_RowFirst_init (stM b_RowFirst_init_N [.loc n, .int (w : Nat), .int (h : Nat)]) _ _
  unfold b_RowFirst_init
  rw [wpSs_cons]
  have ew : ((w : Nat) : Int) * ((h : Nat) : Int) = ((w * h : Nat) : Int) := by simp
  have g1 : ¬ ((w : Nat) : Int) < 1 := by omega
  have g2 : ¬ ((h : Nat) : Int) < 1 := by omega
  have g3 : ¬ (12 : Int) < ((w * h : Nat) : Int) := by omega
  have hw12 : w ≤ 12 := Nat.le_trans (Nat.le_mul_of_pos_right _ hh) hwh
  have cm : CMul ((w : Nat) : Int) ((h : Nat) : Int) := by unfold CMul; omega
  simp only [b_RowFirst_init_N, stM, wpS, wpI, wpE, wpEs, List.length_cons, List.length_nil, List.map_cons, List.map_nil, List.cons_append, List.nil_append, List.replicate, Nat.sub_self, List.getElem?_cons_zero, List.getElem?_cons_succ, cmpW, g1, g2, decide_false, binW, ew, g3]
  refine ⟨cm, ?_⟩
  simp only [wpSs_nil]
  rw [wpSs_cons]
  simp only [wpS, wpE, wpEs, List.getElem?_cons_zero, List.getElem?_cons_succ, callW, h24, mr_Land_init, h17', h35, binW, ew, dflt_nil, List.append_nil]
  refine ⟨cm, w, h, rfl, hw, hh, hwh, fun s1 m n1 => ?_⟩
  obtain ⟨p1, l1, x1⟩ := n1
  have lk := row_ok hw hh hwh
  have hm := lt_of_at x1
  refine ⟨s1.length, m, w * h, rowL w h, rfl, by omega, at_end, (Pre.add _).at_ x1, lk, rfl, ?_⟩
  rw [List.set_append_right _ _ (Nat.le_refl _)]
  simp only [Nat.sub_self, List.set_cons_zero]
  have i2 : (s1 ++ [MO.ins 17 (landFs (w * h) (rowL w h))])[n]? = some (.ins 36 []) := (p1.trans (Pre.add _)).at_ hi
  have x2 : LandR (s1 ++ [MO.ins 17 (landFs (w * h) (rowL w h))]) s1.length (w * h) (rowL w h) := at_end
  have p2 : Pre s0 (s1 ++ [MO.ins 17 (landFs (w * h) (rowL w h))]) := hp.trans (p1.trans (Pre.add _))
  generalize s1 ++ [MO.ins 17 (landFs (w * h) (rowL w h))] = s2 at i2 x2 p2
  generalize s1.length = ln at x2
  refine ⟨n, 36, .loc ln, rfl, i2, ?_⟩
  have hl2 := lt_of_at i2
  have hne : n ≠ ln := by
    intro z
    unfold LandR at x2
    rw [z, x2] at i2
    cases i2
  simp only []
  rw [wpSs_cons]
  simp [wpS, wpE, setfW, List.getElem?_set_self hl2, putM, wpSs_nil]
  refine q _ (p2.set hn _) ⟨⟨ln, List.getElem?_set_self hl2, ?_⟩, hw, hh, hwh, rfl⟩ (FrT.of (List.getElem?_set_self hl2) (fun k e => by simp [lkM] at e) (fun k e => by simp [lkM] at e) fun d kvs p g cm l e => by simp [lkM] at e)
  show (s2.set n _)[ln]? = _
  rw [List.getElem?_set_ne hne]
  exact x2
theorem law_rowways {Γ : Prg} (hl : HasLand Γ) : Law Γ d_RowFirst_ways spRowWays := by
  rintro _ s Q R ⟨n, w, h, p, g, c, rfl, ⟨⟨ln, h1, h2⟩, hw, hh, hwh, _⟩, hp, hg, q⟩
  refine ⟨rfl, ?_⟩
  have hL := (row_ok hw hh hwh).l
  show wpSs Γ b_RowFirst_ways (stM b_RowFirst_ways_N [.loc n, .int (p : Nat), .int (g : Nat), cameM c]) s _
  unfold b_RowFirst_ways
  rw [wpSs_cons]
  simp only [b_RowFirst_ways_N, stM, wpS, wpI, wpE, wpEs, List.length_cons, List.length_nil, List.map_cons, List.map_nil, List.cons_append, List.nil_append, List.replicate, Nat.sub_self, List.getElem?_cons_zero, List.getElem?_cons_succ, cmpW, eqW_int]
  by_cases hpg : p = g
  · subst hpg
    simp only [decide_true]
    rw [wpSs_cons]
    simp only [wpS, wpE, wpEs]
    refine ⟨sz0, q _ _ ⟨Pre.add _, Nat.le_refl _, ?_⟩⟩
    rw [at_end]
    simp [rowW, natsM]
  · have hpg' : ¬ ((p : Nat) : Int) = (g : Nat) := by omega
    simp only [hpg', decide_false, wpSs_nil]
    have e1 : ((p : Nat) : Int) / ((w : Nat) : Int) = ((p / w : Nat) : Int) := by simp
    have e2 : ((p : Nat) : Int) % ((w : Nat) : Int) = ((p % w : Nat) : Int) := by simp
    have e3 : ((g : Nat) : Int) / ((w : Nat) : Int) = ((g / w : Nat) : Int) := by simp
    have e4 : ((g : Nat) : Int) % ((w : Nat) : Int) = ((g % w : Nat) : Int) := by simp
    have g37 : lkM 37 [(25, MV.loc ln), (37, MV.int ((w : Nat) : Int))] = some (.int (w : Nat)) := rfl
    have g25 : lkM 25 [(25, MV.loc ln), (37, MV.int ((w : Nat) : Int))] = some (.loc ln) := rfl
    have hw12 : w ≤ 12 := Nat.le_trans (Nat.le_mul_of_pos_right _ hh) hwh
    rw [wpSs_cons]
    simp only [wpS, wpE, wpEs, List.getElem?_cons_zero, List.getElem?_cons_succ, fldW, h1, g37, bfW, e1, e2, tgW, tgsW, List.set_cons_zero, List.set_cons_succ]
    refine ⟨⟨by omega, by omega⟩, trivial, ?_⟩
    rw [wpSs_cons]
    simp only [wpS, wpE, wpEs, List.getElem?_cons_zero, List.getElem?_cons_succ, fldW, h1, g37, bfW, e3, e4, tgW, tgsW, List.set_cons_zero, List.set_cons_succ]
    refine ⟨⟨by omega, by omega⟩, trivial, ?_⟩
    rw [wpSs_cons]
    simp only [wpS, wpE, wpEs, List.getElem?_cons_zero, List.getElem?_cons_succ, fldW, h1, g37, binW, tgW, List.set_cons_zero, List.set_cons_succ]
    have tail : ∀ o : Int, o = rowO w p g → wpSs Γ (.cons (.ret (.lc (.var 9) (.nm 9) (.seq (.meth (.fld (.var 0) 25) 22 (.cons (.var 1) .nil))) (.so (.cmp .eq (.meth (.fld (.var 0) 25) 21 (.cons (.var 9) .nil)) (.var 8))) [9])) .nil)
        [some (.loc n), some (.int (p : Nat)), some (.int (g : Nat)), some (cameM c), some (.int ((p / w : Nat) : Int)), some (.int ((p % w : Nat) : Int)), some (.int ((g / w : Nat) : Int)), some (.int ((g % w : Nat) : Int)), some (.int o), none] s { nx := fun _ s' => Q .non s', rt := Q, ex := fun y _ s' => R y s' } := by
      intro o ho
      rw [wpSs_cons]
      simp only [wpS]
      unfold wpE
      simp only [wpI, wpE, wpEs, List.getElem?_cons_zero, List.getElem?_cons_succ, fldW, h1, g25]
      refine out_call hl h2 hL fun s1 m n1 => ?_
      obtain ⟨p1, l1, x1⟩ := n1
      simp only [seqIt, x1]
      refine lcP (t := .obj m (natsM (outL (rowL w h) p))) (fun l : Nat => MV.int (l : Nat)) (fun l => if endIs (rowL w h) (rowO w p g) l = true then some (.int (l : Nat)) else none) (outL (rowL w h) p) (by have := out_len (L := rowL w h) (p := p); omega) (fun acc => (Pre.add _).at_ x1) ?_ ?_
      · intro l hlm acc K ha hK
        obtain ⟨qq, hq, _⟩ := out_iff.mp hlm
        have p4 : Pre s (s1 ++ [MO.lst acc]) := p1.trans (Pre.add _)
        have at1 : (s1 ++ [MO.lst acc])[s1.length]? = some (.lst acc) := at_end
        simp only [wipeM, tgW, wpT, wpE, wpEs, List.set_cons_zero, List.set_cons_succ, List.getElem?_cons_zero, List.getElem?_cons_succ, fldW, p4.at_ h1, g25]
        refine end_call hl (h2.mono p4) hq ?_
        simp only [cmpW, eqW_int, at1]
        have e9 : endIs (rowL w h) (rowO w p g) l = decide (((qq.2 : Nat) : Int) = o) := by
          unfold endIs
          rw [hq, ho]
          simp
        rw [e9] at hK
        by_cases hz : ((qq.2 : Nat) : Int) = o
        · simp [hz] at hK ⊢
          exact ⟨ha, hK⟩
        · simp [hz] at hK ⊢
          exact hK
      · rw [fm_filter]
        simp only [Still.out]
        refine q _ _ ⟨p1.trans (Pre.add _), by have := p1.len; omega, ?_⟩
        rw [at_end]
        unfold rowW
        rw [if_neg hpg]
    rw [wpSs_cons]
    simp only [wpS, wpE, List.getElem?_cons_zero, List.getElem?_cons_succ, cmpW]
    by_cases c1 : p % w < g % w
    · have c1' : ((p % w : Nat) : Int) < ((g % w : Nat) : Int) := by omega
      simp only [c1', decide_true]
      rw [wpSs_cons]
      simp only [wpS, wpE, List.getElem?_cons_zero, List.getElem?_cons_succ, binW, tgW, List.set_cons_zero, List.set_cons_succ, wpSs_nil]
      exact tail _ (by unfold rowO; rw [if_pos c1])
    · have c1' : ¬ ((p % w : Nat) : Int) < ((g % w : Nat) : Int) := by omega
      simp only [c1', decide_false]
      rw [wpSs_cons]
      simp only [wpS, wpE, List.getElem?_cons_zero, List.getElem?_cons_succ, cmpW]
      by_cases c2 : g % w < p % w
      · have c2' : ((g % w : Nat) : Int) < ((p % w : Nat) : Int) := by omega
        simp only [c2', decide_true]
        rw [wpSs_cons]
        simp only [wpS, wpE, List.getElem?_cons_zero, List.getElem?_cons_succ, binW, tgW, List.set_cons_zero, List.set_cons_succ, wpSs_nil]
        exact tail _ (by unfold rowO; rw [if_neg c1, if_pos c2])
      · have c2' : ¬ ((g % w : Nat) : Int) < ((p % w : Nat) : Int) := by omega
        simp only [c2', decide_false]
        rw [wpSs_cons]
        simp only [wpS, wpE, List.getElem?_cons_zero, List.getElem?_cons_succ, cmpW]
        by_cases c3 : p / w < g / w
        · have c3' : ((p / w : Nat) : Int) < ((g / w : Nat) : Int) := by omega
          simp only [c3', decide_true]
          rw [wpSs_cons]
          simp only [wpS, wpE, List.getElem?_cons_zero, List.getElem?_cons_succ, fldW, h1, g37, binW, tgW, List.set_cons_zero, List.set_cons_succ, wpSs_nil]
          exact tail _ (by unfold rowO; rw [if_neg c1, if_neg c2, if_pos c3])
        · have c3' : ¬ ((p / w : Nat) : Int) < ((g / w : Nat) : Int) := by omega
          simp only [c3', decide_false, wpSs_nil]
          exact tail _ (by unfold rowO; rw [if_neg c1, if_neg c2, if_neg c3])
end Ly
namespace Ly
open PySem L2
open PyProof.Rows hiding St
def kvM (e : Nat × Nat) : Key × MV := (.inl (e.1 : Nat), .int (e.2 : Nat))
theorem lk_edge {E : List (Nat × Nat)} {y : Nat} (h : y ∈ E.map (·.1)) : ∃ g : Nat, lkD (.inl ((y : Nat) : Int)) (E.map kvM) = some (.int ((g : Nat) : Int)) := by
  induction E with
  | nil => cases h
  | cons e r ih =>
    rw [List.map_cons]
    show ∃ g : Nat, (if (Sum.inl ((e.1 : Nat) : Int) : Key) = .inl ((y : Nat) : Int) then some (MV.int ((e.2 : Nat) : Int)) else lkD (.inl ((y : Nat) : Int)) (r.map kvM)) = _
    by_cases hy : e.1 = y
    · subst hy
      rw [if_pos rfl]
      exact ⟨e.2, rfl⟩
    · rw [if_neg (by intro z; injection z with z; omega)]
      rcases List.mem_cons.mp h with z | z
      · exact absurd z.symm hy
      · exact ih z
theorem lk_none {E : List (Nat × Nat)} {y : Nat} (h : lkD (.inl ((y : Nat) : Int)) (E.map kvM) = none) : y ∉ E.map (·.1) := fun z => by
  obtain ⟨g, e⟩ := lk_edge z
  rw [h] at e
  cases e
theorem lk_some {E : List (Nat × Nat)} {k : Key} {v : MV} (h : lkD k (E.map kvM) = some v) : ∃ x : Nat, v = .int (x : Nat) := by
  induction E with
  | nil => cases h
  | cons e r ih =>
    rw [List.map_cons] at h
    change (if (Sum.inl ((e.1 : Nat) : Int) : Key) = k then some (MV.int ((e.2 : Nat) : Int)) else lkD k (r.map kvM)) = some v at h
    split at h
    · cases h
      exact ⟨e.2, rfl⟩
    · exact ih h
/-- what is found: the keys are places -/
structure FdOk (P : Nat) (E : List (Nat × Nat)) : Prop where
  n : (E.map (·.1)).Nodup
  lt : ∀ x ∈ E.map (·.1), x < P
theorem FdOk.len {P : Nat} {E : List (Nat × Nat)} (h : FdOk P E) : E.length ≤ P := by
  have := nodup_le P _ h.n h.lt
  simpa using this
theorem FdOk.add {P : Nat} {E : List (Nat × Nat)} (h : FdOk P E) {x y : Nat} (h1 : x ∉ E.map (·.1)) (h2 : x < P) : FdOk P (E ++ [(x, y)]) := by
  refine ⟨?_, fun z hz => ?_⟩
  · rw [List.map_append, List.nodup_append]
    refine ⟨h.n, by simp, fun a ha b hb => ?_⟩
    have : b = x := by simpa using hb
    subst this
    exact fun z => h1 (z ▸ ha)
  · rw [List.map_append, List.mem_append] at hz
    rcases hz with hz | hz
    · exact h.lt z hz
    · have : z = x := by simpa using hz
      omega

def hitB (L : List (Nat × Nat)) (S : List Nat) (p : Nat) : Bool := S.any fun l => decide ((L[l]?.map (·.1)) = some p)
/-- what is found while a round is under way: the lanes S are gone over -/
def midF (L : List (Nat × Nat)) (g k : Nat) (S : List Nat) (p : Nat) : Option Nat := match farK L g k p with
  | some d => some d
  | none => if hitB L S p = true then some (k + 1) else none
theorem hit_snoc {L : List (Nat × Nat)} {S : List Nat} {l p : Nat} {q : Nat × Nat} (h : L[l]? = some q) : hitB L (S ++ [l]) p = (hitB L S p || decide (q.1 = p)) := by
  unfold hitB
  rw [List.any_append]
  simp [h]
theorem mid_nil {L : List (Nat × Nat)} {g k p : Nat} : midF L g k [] p = farK L g k p := by
  unfold midF
  cases farK L g k p <;> rfl
theorem mid_old {L : List (Nat × Nat)} {g k : Nat} {S : List Nat} {l p : Nat} {q : Nat × Nat} (h : L[l]? = some q) (hq : midF L g k S q.1 ≠ none) : midF L g k (S ++ [l]) p = midF L g k S p := by
  unfold midF at hq ⊢
  cases e : farK L g k p with
  | some d => rfl
  | none =>
    simp only
    rw [hit_snoc h]
    by_cases hp : q.1 = p
    · subst hp
      rw [e] at hq
      simp only at hq
      by_cases hb : hitB L S q.1 = true
      · simp [hb]
      · rw [if_neg hb] at hq
        exact absurd rfl hq
    · simp [hp]
theorem mid_new {L : List (Nat × Nat)} {g k : Nat} {S : List Nat} {l p : Nat} {q : Nat × Nat} (h : L[l]? = some q) (hq : midF L g k S q.1 = none) : midF L g k (S ++ [l]) p = if q.1 = p then some (k + 1) else midF L g k S p := by
  unfold midF at hq ⊢
  by_cases hp : q.1 = p
  · subst hp
    rw [if_pos rfl]
    cases e : farK L g k q.1 with
    | some d => rw [e] at hq; cases hq
    | none =>
      simp only
      rw [hit_snoc h]
      simp
  · rw [if_neg hp]
    cases e : farK L g k p with
    | some d => rfl
    | none =>
      simp only
      rw [hit_snoc h]
      simp [hp]
theorem farK_le {L : List (Nat × Nat)} {g : Nat} : ∀ {k p d : Nat}, farK L g k p = some d → d ≤ k
  | 0, p, d, h => by
    unfold farK at h
    split at h <;> cases h
    exact Nat.le_refl _
  | k + 1, p, d, h => by
    unfold farK at h
    split at h
    · rename_i e
      cases h
      have := farK_le e
      omega
    · split at h <;> cases h
      exact Nat.le_refl _
/-- a round, done -/
theorem mid_done {L : List (Nat × Nat)} {g k : Nat} {rs : List Nat} (hr : ∀ x, x ∈ rs ↔ farK L g k x = some k) (p : Nat) : midF L g k (rs.flatMap (intoL L)) p = farK L g (k + 1) p := by
  unfold midF
  conv => rhs; unfold farK
  cases e : farK L g k p with
  | some d => rfl
  | none =>
    simp only
    congr 1
    rw [eq_iff_iff]
    unfold hitB
    rw [List.any_eq_true, List.any_eq_true]
    constructor
    · rintro ⟨l, hl, hp⟩
      obtain ⟨x, hx, hlx⟩ := List.mem_flatMap.mp hl
      obtain ⟨q, hq, rfl⟩ := into_iff.mp hlx
      rw [hq] at hp
      have hp := of_decide_eq_true hp
      have hp : q.1 = p := by simpa using hp
      exact ⟨q, List.mem_of_getElem? hq, by simp [hp, (hr q.2).mp hx]⟩
    · rintro ⟨q, hq, hp⟩
      rw [Bool.and_eq_true, decide_eq_true_iff, decide_eq_true_iff] at hp
      obtain ⟨l, hl⟩ := List.getElem?_of_mem hq
      exact ⟨l, List.mem_flatMap.mpr ⟨q.2, (hr q.2).mpr hp.2, into_iff.mpr ⟨q, hl, rfl⟩⟩, by rw [hl]; simp [hp.1]⟩
/-- who is new in a round -/
def midM (L : List (Nat × Nat)) (g k : Nat) (S : List Nat) (x : Nat) : Prop := farK L g k x = none ∧ hitB L S x = true
theorem midM_done {L : List (Nat × Nat)} {g k : Nat} {rs : List Nat} (hr : ∀ x, x ∈ rs ↔ farK L g k x = some k) (x : Nat) : midM L g k (rs.flatMap (intoL L)) x ↔ farK L g (k + 1) x = some (k + 1) := by
  rw [← mid_done hr]
  unfold midM midF
  cases e : farK L g k x with
  | some d =>
    have := farK_le e
    simp
    omega
  | none => simp
def LkIs (E : List (Nat × Nat)) (f : Nat → Option Nat) : Prop := ∀ p : Nat, lkD (.inl (p : Int)) (E.map kvM) = (f p).map fun x => MV.int (x : Nat)
theorem LkIs.some {E : List (Nat × Nat)} {f : Nat → Option Nat} (h : LkIs E f) {p d : Nat} (e : f p = some d) : lkD (.inl ((p : Nat) : Int)) (E.map kvM) = some (.int (d : Nat)) := by rw [h, e]; rfl
theorem lk_snoc {E : List (Nat × Nat)} {x y p : Nat} (h : lkD (.inl ((x : Nat) : Int)) (E.map kvM) = none) : lkD (.inl ((p : Nat) : Int)) ((E ++ [(x, y)]).map kvM) = if x = p then some (.int (y : Nat)) else lkD (.inl ((p : Nat) : Int)) (E.map kvM) := by
  have e1 : (E ++ [(x, y)]).map kvM = putD (.inl ((x : Nat) : Int)) (.int (y : Nat)) (E.map kvM) := by
    rw [putD_new h]
    simp [kvM]
  rw [e1, lk_put]
  by_cases hp : x = p
  · subst hp
    rw [if_pos rfl, if_pos rfl]
  · rw [if_neg hp, if_neg]
    intro z
    apply hp
    injection z with z
    omega
/-- found, and a list of the reached -/
structure Dst (s : MS) (P : Nat) (s' : MS) (E : List (Nat × Nat)) (f : Nat → Option Nat) (r : Nat) (rs : List Nat) : Prop where
  p : Pre s s'
  d : s'[s.length]? = some (.dlf (E.map kvM))
  le : s.length < r
  r : s'[r]? = some (.lst (natsM rs))
  ok : FdOk P E
  lk : LkIs E f
def spDist : MSp := fun vs s Q _ => ∃ (ln g P : Nat) (L : List (Nat × Nat)), vs = [.loc ln, .int (g : Nat)] ∧ LandR s ln P L ∧ LOk P L ∧ g < P ∧
  ∀ s' m (E : List (Nat × Nat)), Pre s s' → s.length ≤ m → s'[m]? = some (.dlf (E.map kvM)) → LkIs E (farK L g P) → Q (.loc m) s'
theorem law_dist {Γ : Prg} (hl : HasLand Γ) : Law Γ d_distances spDist := by
  rintro _ s Q R ⟨ln, g, P, L, rfl, h, lk, hg, q⟩
  refine ⟨rfl, ?_⟩
  have hP := lk.p2
  have hL := lk.l
  have hpt : ∀ s', Pre s s' → s'[ln]? = some (.ins 17 (landFs P L)) := fun s' m => m.at_ h
  show wpSs Γ b_distances (stM b_distances_N [.loc ln, .int (g : Nat)]) _ _
  unfold b_distances
  rw [wpSs_cons]
  simp [b_distances_N, stM, wpS, wpE, wpEs, dispW, leafOf, tgW]
  have x1 : (s ++ [MO.dlf [(.inl ((g : Nat) : Int), .int 0)]])[s.length]? = some (.dlf ([(g, 0)].map kvM)) := at_end
  have p1 : Pre s (s ++ [MO.dlf [(.inl ((g : Nat) : Int), .int 0)]]) := Pre.add _
  generalize s ++ [MO.dlf [(.inl ((g : Nat) : Int), .int 0)]] = s1 at x1 p1
  rw [wpSs_cons]
  simp [wpS, wpE, wpEs, tgW]
  refine ⟨by decide, ?_⟩
  have lk0 : LkIs [(g, 0)] (farK L g 0) := fun p => by
    show (if Sum.inl ((g : Nat) : Int) = Sum.inl ((p : Nat) : Int) then some (MV.int ((0 : Nat) : Int)) else none) = _
    unfold farK
    by_cases hp : p = g
    · subst hp
      rw [if_pos rfl, if_pos rfl]
      rfl
    · rw [if_neg hp, if_neg]
      · rfl
      · intro z
        injection z with z
        omega
  have d1 : Dst s P (s1 ++ [MO.lst [.int (g : Nat)]]) [(g, 0)] (farK L g 0) s1.length [g] := ⟨p1.trans (Pre.add _), (Pre.add _).at_ x1, lt_of_at x1, at_end, ⟨by simp, by simpa using hg⟩, lk0⟩
  rw [wpSs_cons]
  generalize s1 ++ [MO.lst [.int (g : Nat)]] = s2 at d1
  simp [wpS, wpI, wpE, wpEs, fldW, hpt s2 d1.p, landFs, lkM]
  refine ⟨by omega, ?_⟩
  rw [rng_nats]
  refine forP (t := .free) (fun p : Nat => MV.int (p : Nat)) (fun k σ s' => ∃ (r : Nat) (a b c e f : Option MV) (E : List (Nat × Nat)) (rs : List Nat), σ = [some (.loc ln), some (.int (g : Nat)), some (.loc s.length), some (.loc r), a, b, c, e, f] ∧ Dst s P s' E (farK L g k) r rs ∧ ∀ x, x ∈ rs ↔ farK L g k x = some k) (List.range P)
    (fun _ _ _ _ _ => trivial) ?_ ?_ ⟨_, _, _, _, _, _, _, _, rfl, d1, fun x => by unfold farK; by_cases hx : x = g <;> simp [hx]⟩
  · rintro kk x σ s3 hx ⟨r, a, b, c, e, f, E0, rs, rfl, d3, hrs⟩ k hk
    simp only [tgW, List.set_cons_succ, List.set_cons_zero]
    rw [wpSs_cons]
    simp [wpS, wpE, wpEs, tgW]
    have d4 : Dst s P (s3 ++ [MO.lst []]) E0 (midF L g kk []) r rs := ⟨d3.p.trans (Pre.add _), (Pre.add _).at_ d3.d, d3.le, (Pre.add _).at_ d3.r, d3.ok, fun p => by rw [mid_nil]; exact d3.lk p⟩
    have n4 : Dst s P (s3 ++ [MO.lst []]) E0 (midF L g kk []) s3.length [] := ⟨d3.p.trans (Pre.add _), (Pre.add _).at_ d3.d, lt_of_at d3.d, at_end, d3.ok, d4.lk⟩
    have hrm : r ≠ s3.length := by have := lt_of_at d3.r; omega
    generalize s3 ++ [MO.lst []] = s4 at d4 n4
    generalize s3.length = mo at n4 hrm
    rw [wpSs_cons]
    simp only [wpS, wpI, wpE, List.getElem?_cons_succ, List.getElem?_cons_zero, seqIt, d4.r]
    refine forP (t := .obj r (natsM rs)) (fun p : Nat => MV.int (p : Nat)) (fun i σ s' => ∃ (b c e f : Option MV) (E : List (Nat × Nat)) (ms : List Nat), σ = [some (.loc ln), some (.int (g : Nat)), some (.loc s.length), some (.loc r), b, some (.loc mo), c, e, f] ∧ Dst s P s' E (midF L g kk ((rs.take i).flatMap (intoL L))) r rs ∧ Dst s P s' E (midF L g kk ((rs.take i).flatMap (intoL L))) mo ms ∧ ms.length ≤ E.length ∧ ∀ x, x ∈ ms ↔ midM L g kk ((rs.take i).flatMap (intoL L)) x) rs
      (fun _ _ _ _ h' => by obtain ⟨_, _, _, _, _, _, _, z, _⟩ := h'; exact z.r) ?_ ?_ ⟨_, _, _, _, _, _, rfl, d4, n4, Nat.zero_le _, fun x => by simp [midM, hitB]⟩
    · rintro i2 end_ σ s5 hend ⟨b, c, e, f, E, ms, rfl, d5, n5, hms, hmm⟩ k2 hk2
      simp only [tgW, List.set_cons_succ, List.set_cons_zero]
      rw [wpSs_cons]
      simp only [wpS, wpI, wpE, wpEs, List.getElem?_cons_succ, List.getElem?_cons_zero]
      refine into_call hl (hpt s5 d5.p) hL fun s6 m6 n6 => ?_
      obtain ⟨p6, k6, x6⟩ := n6
      simp only [seqIt, x6]
      obtain ⟨S0, hS0⟩ : ∃ S0, S0 = (rs.take i2).flatMap (intoL L) := ⟨_, rfl⟩
      rw [← hS0] at d5 n5 hmm
      have d6 : Dst s P s6 E (midF L g kk S0) r rs := ⟨d5.p.trans p6, p6.at_ d5.d, d5.le, p6.at_ d5.r, d5.ok, d5.lk⟩
      have n6 : Dst s P s6 E (midF L g kk S0) mo ms := ⟨d5.p.trans p6, p6.at_ n5.d, n5.le, p6.at_ n5.r, n5.ok, n5.lk⟩
      have g1 : m6 ≠ mo := by have := lt_of_at n5.r; omega
      have g2 : m6 ≠ s.length := by have := lt_of_at n5.d; omega
      have hee : end_ ∈ rs := List.mem_of_getElem? hend
      have hfe := (hrs end_).mp hee
      refine forP (t := .obj m6 (natsM (intoL L end_))) (fun p : Nat => MV.int (p : Nat)) (fun j σ s' => ∃ (b c e f : Option MV) (E : List (Nat × Nat)) (ms : List Nat), σ = [some (.loc ln), some (.int (g : Nat)), some (.loc s.length), some (.loc r), b, some (.loc mo), some (.int (end_ : Nat)), e, f] ∧ Dst s P s' E (midF L g kk (S0 ++ (intoL L end_).take j)) r rs ∧ Dst s P s' E (midF L g kk (S0 ++ (intoL L end_).take j)) mo ms ∧ ms.length ≤ E.length ∧ s'[m6]? = some (.lst (natsM (intoL L end_))) ∧ ∀ x, x ∈ ms ↔ midM L g kk (S0 ++ (intoL L end_).take j) x) (intoL L end_)
        (fun _ _ _ _ h' => by obtain ⟨_, _, _, _, _, _, _, _, _, _, z, _⟩ := h'; exact z) ?_ ?_ ⟨_, none, _, _, _, _, rfl, by simpa using d6, by simpa using n6, hms, x6, by simpa using hmm⟩
      · rintro i3 l σ s7 hlane ⟨b, c, e, f, E, ms, rfl, d7, n7, hms, x7, hmm⟩ k3 hk3
        obtain ⟨p, hp, _⟩ := into_iff.mp (List.mem_of_getElem? hlane)
        obtain ⟨hp1, _, _⟩ := lk.lt p (List.mem_of_getElem? hp)
        have htk : S0 ++ (intoL L end_).take (i3 + 1) = (S0 ++ (intoL L end_).take i3) ++ [l] := by rw [List.take_add_one, hlane]; simp
        rw [htk] at hk3
        generalize S0 ++ (intoL L end_).take i3 = S at d7 n7 hmm hk3
        simp only [tgW, List.set_cons_succ, List.set_cons_zero]
        rw [wpSs_cons]
        simp only [wpS, wpE, wpEs, List.getElem?_cons_succ, List.getElem?_cons_zero]
        refine start_call hl (hpt s7 d7.p) hp ?_
        simp only [tgW, List.set_cons_succ, List.set_cons_zero]
        rw [wpSs_cons]
        simp only [wpS, wpE, wpEs, List.getElem?_cons_succ, List.getElem?_cons_zero, cmpW, inW, d7.d, leafOf, wpSs_nil, d7.lk p.1]
        cases hk6 : midF L g kk S p.1 with
        | some v =>
          simp only [Option.map_some, Option.isSome_some, Bool.not_true]
          have hold : ∀ x, midF L g kk (S ++ [l]) x = midF L g kk S x := fun x => mid_old hp (by rw [hk6]; simp)
          have hlk : LkIs E (midF L g kk (S ++ [l])) := fun x => by rw [hold]; exact d7.lk x
          refine hk3 _ _ ⟨_, none, _, _, E, ms, rfl, ⟨d7.p, d7.d, d7.le, d7.r, d7.ok, hlk⟩, ⟨n7.p, n7.d, n7.le, n7.r, n7.ok, hlk⟩, hms, x7, fun x => ?_⟩
          rw [hmm]
          unfold midM
          rw [hit_snoc hp]
          by_cases hpx : p.1 = x
          · subst hpx
            unfold midF at hk6
            constructor
            · rintro ⟨h1, h2⟩
              exact ⟨h1, by rw [h2]; rfl⟩
            · rintro ⟨h1, h2⟩
              rw [h1] at hk6
              simp only at hk6
              refine ⟨h1, ?_⟩
              by_cases hb : hitB L S p.1 = true
              · exact hb
              · rw [if_neg hb] at hk6
                cases hk6
          · simp [hpx]
        | none =>
          have hw : lkD (.inl ((end_ : Nat) : Int)) (E.map kvM) = some (.int (kk : Nat)) := d7.lk.some (by unfold midF; rw [hfe])
          have hno : lkD (.inl ((p.1 : Nat) : Int)) (E.map kvM) = none := by rw [d7.lk, hk6]; rfl
          have hEl := d7.ok.len
          simp only [Option.map_none, Option.isSome_none, Bool.not_false]
          rw [wpSs_cons]
          simp only [wpS, wpE, wpEs, List.getElem?_cons_succ, List.getElem?_cons_zero, ixW, lkW, d7.d, leafOf, hw, binW, setW]
          refine ⟨by simp [sizeLine]; omega, ?_⟩
          rw [putD_new hno]
          have e1 : E.map kvM ++ [(.inl ((p.1 : Nat) : Int), .int (((kk : Nat) : Int) + 1))] = (E ++ [(p.1, kk + 1)]).map kvM := by simp [kvM]
          rw [e1]
          have hnr : s.length ≠ r := by have := d7.le; omega
          have hnm : s.length ≠ mo := by have := n7.le; omega
          have hl7 := lt_of_at d7.d
          have ok8 : FdOk P (E ++ [(p.1, kk + 1)]) := d7.ok.add (lk_none hno) hp1
          have lk8 : LkIs (E ++ [(p.1, kk + 1)]) (midF L g kk (S ++ [l])) := fun x => by
            rw [lk_snoc hno, mid_new hp hk6]
            by_cases hx : p.1 = x
            · rw [if_pos hx, if_pos hx]
              rfl
            · rw [if_neg hx, if_neg hx]
              exact d7.lk x
          have d8 : Dst s P (s7.set s.length (MO.dlf ((E ++ [(p.1, kk + 1)]).map kvM))) (E ++ [(p.1, kk + 1)]) (midF L g kk (S ++ [l])) r rs := ⟨d7.p.set (Nat.le_refl _) _, List.getElem?_set_self hl7, d7.le, by rw [List.getElem?_set_ne hnr]; exact d7.r, ok8, lk8⟩
          have n8 : Dst s P (s7.set s.length (MO.dlf ((E ++ [(p.1, kk + 1)]).map kvM))) (E ++ [(p.1, kk + 1)]) (midF L g kk (S ++ [l])) mo ms := ⟨d7.p.set (Nat.le_refl _) _, List.getElem?_set_self hl7, n7.le, by rw [List.getElem?_set_ne hnm]; exact n7.r, ok8, lk8⟩
          have x8 : (s7.set s.length (MO.dlf ((E ++ [(p.1, kk + 1)]).map kvM)))[m6]? = some (.lst (natsM (intoL L end_))) := by rw [List.getElem?_set_ne (Ne.symm g2)]; exact x7
          generalize s7.set s.length (MO.dlf ((E ++ [(p.1, kk + 1)]).map kvM)) = s8 at d8 n8 x8
          rw [wpSs_cons]
          simp only [wpS, wpE, wpEs, List.getElem?_cons_succ, List.getElem?_cons_zero, kindM, n8.r, bmK, bmW, wpSs_nil]
          refine ⟨trivial, by rw [natsM_len]; simp [sizeLine]; omega, ?_⟩
          have hl8 := lt_of_at n8.r
          have e2 : natsM ms ++ [.int ((p.1 : Nat) : Int)] = natsM (ms ++ [p.1]) := by simp [natsM]
          rw [e2]
          refine hk3 _ _ ⟨_, none, _, _, E ++ [(p.1, kk + 1)], ms ++ [p.1], rfl, ⟨d8.p.set (by have := n8.le; omega) _, by rw [List.getElem?_set_ne (Ne.symm hnm)]; exact d8.d, d8.le, by rw [List.getElem?_set_ne (Ne.symm hrm)]; exact d8.r, ok8, lk8⟩, ⟨d8.p.set (by have := n8.le; omega) _, by rw [List.getElem?_set_ne (Ne.symm hnm)]; exact d8.d, n8.le, List.getElem?_set_self hl8, ok8, lk8⟩, by simp; omega, by rw [List.getElem?_set_ne (Ne.symm g1)]; exact x8, fun x => ?_⟩
          rw [List.mem_append, hmm]
          unfold midM
          rw [hit_snoc hp]
          unfold midF at hk6
          by_cases hpx : p.1 = x
          · subst hpx
            have h1 : farK L g kk p.1 = none := by
              cases e9 : farK L g kk p.1 with
              | none => rfl
              | some d => rw [e9] at hk6; cases hk6
            simp [h1]
          · simp [hpx, Ne.symm hpx]
      · rintro σ s7 ⟨b, c, e, f, E, ms, rfl, d7, n7, hms, x7, hmm⟩
        simp only [Still.out, wpSs_nil]
        rw [List.take_length] at d7 n7 hmm
        have ht2 : (rs.take (i2 + 1)).flatMap (intoL L) = S0 ++ intoL L end_ := by rw [List.take_add_one, hend, hS0]; simp
        refine hk2 _ _ ⟨_, _, _, _, E, ms, rfl, ?_, ?_, hms, ?_⟩ <;> rw [ht2]
        · exact d7
        · exact n7
        · exact hmm
    · rintro σ s5 ⟨b, c, e, f, E, ms, rfl, d5, n5, hms, hmm⟩
      simp only [Still.out]
      rw [List.take_length] at n5 hmm
      rw [wpSs_cons]
      simp only [wpS, wpE, List.getElem?_cons_succ, List.getElem?_cons_zero, tgW, List.set_cons_succ, List.set_cons_zero, wpSs_nil]
      exact hk _ _ ⟨mo, _, _, _, _, _, E, ms, rfl, ⟨n5.p, n5.d, n5.le, n5.r, n5.ok, fun x => by rw [← mid_done hrs]; exact n5.lk x⟩, fun x => by rw [hmm, midM_done hrs]⟩
  · rintro σ s3 ⟨r, a, b, c, e, f, E, rs, rfl, d3, _⟩
    simp only [Still.out]
    rw [wpSs_cons]
    simp only [wpS, wpE, List.getElem?_cons_succ, List.getElem?_cons_zero]
    rw [List.length_range] at d3
    exact q s3 s.length E d3.p (Nat.le_refl _) d3.d d3.lk
end Ly
namespace Ly
open PySem L2
open PyProof.Rows hiding St
def FarTo (L : List (Nat × Nat)) (P : Nat) (s : MS) (D k : Nat) (ds : List Nat) (Es : List (List (Nat × Nat))) : Prop := s[D]? = some (.lst (ds.map .loc)) ∧ ds.length = k ∧ Es.length = k ∧ ∀ (i d : Nat), ds[i]? = some d → d ≠ D ∧ ∃ E, Es[i]? = some E ∧ s[d]? = some (.dlf (E.map kvM)) ∧ LkIs E (farK L i P)
def spNear : MSp := fun vs s Q _ => ∃ (s0 : MS) (n ln P : Nat) (L : List (Nat × Nat)), vs = [.loc n, .loc ln] ∧ NewI s0 s n 44 ∧ LandR s ln P L ∧ LOk P L ∧ ∀ s', Pre s0 s' → NearR s' n P L → FrT s0.length s' n → Q .non s'
theorem law_near {Γ : Prg} (h24 : Γ 24 0 = some spTabI) (h43 : Γ 0 43 = some spDist) : Law Γ d_Nearer_init spNear := by
  rintro _ s Q R ⟨s0, n, ln, P, L, rfl, ⟨hp, hn, hi⟩, h, lk, q⟩
  refine ⟨rfl, ?_⟩
  have hP := lk.p2
  have hL := lk.l
  have hne : n ≠ ln := fun z => by
    subst z
    unfold LandR at h
    rw [h] at hi
    cases hi
  show wpSs Γ b_Nearer_init (stM b_Nearer_init_N [.loc n, .loc ln]) _ _
  unfold b_Nearer_init
  rw [wpSs_cons]
  simp only [b_Nearer_init_N, stM, wpS, wpE, wpEs, callW, h24, List.length_cons, List.length_nil, List.map_cons, List.map_nil, List.cons_append, List.nil_append, List.replicate, Nat.sub_self, List.getElem?_cons_zero, List.getElem?_cons_succ]
  refine ⟨n, 44, .loc ln, rfl, hi, ?_⟩
  have p1 : Pre s0 (s.set n (.ins 44 [(25, .loc ln)])) := hp.set hn _
  have i1 : (s.set n (.ins 44 [(25, .loc ln)]))[n]? = some (.ins 44 [(25, .loc ln)]) := List.getElem?_set_self (lt_of_at hi)
  have h1 : (s.set n (.ins 44 [(25, .loc ln)]))[ln]? = some (.ins 17 (landFs P L)) := by rw [List.getElem?_set_ne hne]; exact h
  generalize s.set n (.ins 44 [(25, .loc ln)]) = s1 at p1 i1 h1
  simp only []
  rw [wpSs_cons]
  simp only [wpS, wpI]
  unfold wpE
  simp only [wpI, wpE, wpEs, List.getElem?_cons_zero, List.getElem?_cons_succ, fldW, h1, landFs, lkM]
  simp [lkM]
  refine ⟨by omega, ?_⟩
  rw [rng_nats]
  refine lcL_inv (t := .free) (fun l s' => ∃ (k : Nat) (ds : List Nat) (Es : List (List (Nat × Nat))), k ≤ P ∧ l = natsM (List.range' k (P - k)) ∧ Pre s1 s' ∧ FarTo L P s' s1.length k ds Es) (fun _ _ _ => trivial) ?_ ?_ _ _
      ⟨0, [], [], Nat.zero_le _, by rw [List.range_eq_range']; rfl, Pre.add _, at_end, rfl, rfl, fun i d e => nomatch e⟩
  · rintro x r s3 ⟨k, ds, Es, hk, hx, m3, l1, l2, l3, l4⟩ K hK
    have hkl : k < P := by
      rcases Nat.lt_or_ge k P with z | z
      · exact z
      · rw [show P - k = 0 by omega] at hx
        cases hx
    have e1 : P - k = (P - (k + 1)) + 1 := by omega
    rw [e1, List.range'_succ] at hx
    have hx' : x :: r = MV.int (k : Nat) :: natsM (List.range' (k + 1) (P - (k + 1))) := hx
    cases hx'
    simp only [wipeM, tgW, wpT, callW, h43, dflt_nil, List.set_cons_zero, List.set_cons_succ, List.getElem?_cons_zero, List.getElem?_cons_succ, if_true, List.append_nil]
    refine ⟨ln, k, P, L, rfl, m3.at_ h1, lk, hkl, fun s4 m E m4 hm x4 hlk => ?_⟩
    have y1 := m4.at_ l1
    have hne2 : s1.length ≠ m := by have := m3.len; have := lt_of_at l1; omega
    simp only [y1]
    refine ⟨by simp [sizeLine]; omega, hK _ ⟨k + 1, ds ++ [m], Es ++ [E], hkl, rfl, (m3.trans m4).set (Nat.le_refl _) _, ?_, by simp [l2], by simp [l3], ?_⟩⟩
    · rw [List.getElem?_set_self (lt_of_at y1)]
      simp
    · intro i d hd
      rcases Nat.lt_or_ge i ds.length with z | z
      · rw [List.getElem?_append_left z] at hd
        obtain ⟨w1, E', w2, w3, w4⟩ := l4 i d hd
        refine ⟨w1, E', by rw [List.getElem?_append_left (by omega)]; exact w2, by rw [List.getElem?_set_ne (Ne.symm w1)]; exact m4.at_ w3, w4⟩
      · rw [List.getElem?_append_right z] at hd
        have hi' : i - ds.length = 0 := by
          rcases Nat.eq_zero_or_pos (i - ds.length) with y | y
          · exact y
          · rw [List.getElem?_eq_none (by simp; omega)] at hd
            cases hd
        rw [hi'] at hd
        cases hd
        have hi'' : i = k := by omega
        subst hi''
        refine ⟨Ne.symm hne2, E, ?_, by rw [List.getElem?_set_ne hne2]; exact x4, hlk⟩
        rw [List.getElem?_append_right (by omega), l3]
        simp
  · rintro s3 ⟨k, ds, Es, hk, hx, m3, l1, l2, l3, l4⟩
    have hkl : k = P := by
      rcases Nat.lt_or_ge k P with z | z
      · rw [show P - k = (P - k - 1) + 1 by omega, List.range'_succ] at hx
        cases hx
      · omega
    subst hkl
    have i3 := m3.at_ i1
    have h3 := m3.at_ h1
    have p3 := p1.trans m3
    have hl3 := lt_of_at i3
    have hnd : n ≠ s1.length := by have := lt_of_at i1; omega
    simp only [Still.out]
    simp [setfW, i3, putM, wpSs_nil]
    have hfs : ∀ (i d : Nat), ds[i]? = some d → s3[d]? = some (MO.dlf (((Es[i]?).getD []).map kvM)) := fun i d e => by
      obtain ⟨_, E, w2, w3, _⟩ := l4 i d e
      rw [w2]
      exact w3
    refine q _ (p3.set hn _) ⟨⟨ln, s1.length, ds, fun i => ((Es[i]?).getD []).map kvM, List.getElem?_set_self hl3, ?_, ?_, l2, fun i d e => ?_, fun i hi p => ?_⟩, lk, rfl⟩ (FrT.of (List.getElem?_set_self hl3) (fun k e => by simp [lkM] at e) (fun k e => by simp [lkM] at e; have := p1.len; omega) fun d kvs p g cm l e => by simp [lkM] at e)
    · show (s3.set n _)[ln]? = _
      rw [List.getElem?_set_ne hne]
      exact h3
    · rw [List.getElem?_set_ne hnd]
      exact l1
    · have := hfs i d e
      rw [List.getElem?_set_ne (fun z => by subst z; rw [i3] at this; cases this)]
      exact this
    · obtain ⟨_, E, w2, _, w4⟩ := l4 i _ (List.getElem?_eq_getElem (by omega))
      simp only [w2, Option.getD_some]
      exact w4 p

theorem law_nearways {Γ : Prg} (hl : HasLand Γ) : Law Γ d_Nearer_ways spNearWays := by
  rintro _ s Q R ⟨n, P, p, g, L, c, rfl, ⟨⟨ln, k, ds, fs, h1, h2, h3, h4, h5, h6⟩, lk, _⟩, hpP, hg, q⟩
  refine ⟨rfl, ?_⟩
  have hL := lk.l
  have hlk : ∀ p : Nat, lkD (.inl ((p : Nat) : Int)) (fs g) = (farK L g P p).map fun x => MV.int (x : Nat) := h6 g hg
  obtain ⟨d, hd⟩ : ∃ d, ds[g]? = some d := ⟨_, List.getElem?_eq_getElem (by omega)⟩
  have hdd := h5 g d hd
  have h2' := h2
  unfold LandR at h2'
  have g1 : atI (ds.map MV.loc) ((g : Nat) : Int) = some (.loc d) := by rw [atN]; simp [hd]
  show wpSs Γ b_Nearer_ways (stM b_Nearer_ways_N [.loc n, .int (p : Nat), .int (g : Nat), cameM c]) _ _
  unfold b_Nearer_ways
  rw [wpSs_cons]
  simp [b_Nearer_ways_N, stM, wpS, wpE, wpEs, fldW, h1, lkM, ixW, h3, atW, g1, tgW]
  rw [wpSs_cons]
  simp only [wpS, wpE, wpEs, List.getElem?_cons_zero, List.getElem?_cons_succ, cmpW, inW, hdd, leafOf, wpSs_nil]
  rw [hlk p]
  cases hp : farK L g P p with
  | none =>
    simp only [Option.map_none, Option.isSome_none, Bool.not_false]
    rw [wpSs_cons]
    simp only [wpS, wpE, wpEs]
    refine ⟨by decide, q _ _ ⟨Pre.add _, Nat.le_refl _, ?_⟩⟩
    have : nearW P L p g c = [] := by
      unfold nearW
      rw [hp]
    rw [this]
    exact at_end
  | some y =>
    simp only [Option.map_some, Option.isSome_some, Bool.not_true]
    rw [wpSs_cons]
    simp only [wpS, wpE, wpEs, wpI, List.getElem?_cons_zero, List.getElem?_cons_succ, fldW, h1, lkM]
    simp [lkM]
    refine out_call hl h2 hL fun s1 m1 n1 => ?_
    obtain ⟨p1, k1, x1⟩ := n1
    simp only [seqIt, x1]
    have hol : (outL L p).length ≤ 40 := by
      unfold outL
      have := List.length_filter_le (fun i => decide ((L[i]?.map (·.1)) = some p)) (List.range L.length)
      simp at this
      omega
    refine lcP (t := .obj m1 (natsM (outL L p))) (fun l : Nat => MV.int (l : Nat)) (fun l => some (MV.tup [.int (l : Nat), .int (((L[l]?).getD (0, 0)).2 : Nat)])) (outL L p) (by omega) (fun acc => (Pre.add _).at_ x1) ?_ ?_
    · intro l hlm acc K ha hK
      have hll := out_mem hlm
      obtain ⟨pp, hpp⟩ : ∃ pp, L[l]? = some pp := ⟨_, List.getElem?_eq_getElem hll⟩
      have pp1 : Pre s (s1 ++ [MO.lst acc]) := p1.trans (Pre.add _)
      have at1 : (s1 ++ [MO.lst acc])[s1.length]? = some (.lst acc) := at_end
      rw [hpp] at hK
      simp only [wipeM, tgW, wpT, List.set_cons_zero, List.set_cons_succ, List.getElem?_cons_zero, List.getElem?_cons_succ, if_true, pp1.at_ h1, lkM]
      refine end_call hl (h2.mono pp1) hpp ?_
      simp only [at1]
      refine ⟨by decide, ha, ?_⟩
      rw [List.set_append_right _ _ (Nat.le_refl _)]
      simpa using hK
    · rw [List.filterMap_eq_map']
      simp only [Still.out, List.set_cons_zero, List.set_cons_succ]
      have x2 : (s1 ++ [MO.lst ((outL L p).map fun l => MV.tup [.int (l : Nat), .int (((L[l]?).getD (0, 0)).2 : Nat)])])[s1.length]? = some (.lst ((outL L p).map fun l => MV.tup [.int (l : Nat), .int (((L[l]?).getD (0, 0)).2 : Nat)])) := at_end
      have p2 : Pre s (s1 ++ [MO.lst ((outL L p).map fun l => MV.tup [.int (l : Nat), .int (((L[l]?).getD (0, 0)).2 : Nat)])]) := p1.trans (Pre.add _)
      generalize s1 ++ [MO.lst ((outL L p).map fun l => MV.tup [.int (l : Nat), .int (((L[l]?).getD (0, 0)).2 : Nat)])] = s2 at x2 p2
      simp only [tgW, List.set_cons_zero, List.set_cons_succ]
      rw [wpSs_cons]
      simp only [wpS]
      unfold wpE
      simp only [wpE, wpI, List.getElem?_cons_zero, List.getElem?_cons_succ, seqIt, x2]
      refine lcP (t := .obj s1.length ((outL L p).map fun l => MV.tup [.int (l : Nat), .int (((L[l]?).getD (0, 0)).2 : Nat)])) (fun l : Nat => MV.tup [.int (l : Nat), .int (((L[l]?).getD (0, 0)).2 : Nat)]) (fun l => if nearB L P g y l = true then some (.int (l : Nat)) else none) (outL L p) (by omega) (fun acc => (Pre.add _).at_ x2) ?_ ?_
      · intro l hlm acc K ha hK
        have hll := out_mem hlm
        obtain ⟨pp, hpp⟩ : ∃ pp, L[l]? = some pp := ⟨_, List.getElem?_eq_getElem hll⟩
        have d3 : (s2 ++ [MO.lst acc])[d]? = some (.dlf (fs g)) := (p2.trans (Pre.add _)).at_ hdd
        have at1 : (s2 ++ [MO.lst acc])[s2.length]? = some (.lst acc) := at_end
        have hnb : nearB L P g y l = decide ((farK L g P pp.2).map (· + 1) = some y) := by
          unfold nearB
          rw [hpp]
        rw [hnb] at hK
        simp only [hpp, Option.getD_some, wipeM, tgW, tgsW, wpT, wpE, wpEs, cmpW, inW, ixW, lkW, leafOf, List.set_cons_zero, List.set_cons_succ, List.getElem?_cons_zero, List.getElem?_cons_succ, d3, at1]
        refine ⟨trivial, ?_⟩
        rw [hlk pp.2]
        cases he : farK L g P pp.2 with
        | none =>
          simp [he] at hK ⊢
          exact hK
        | some x =>
          have hp2 : lkD (.inl ((p : Nat) : Int)) (fs g) = some (.int (y : Nat)) := by rw [hlk, hp]; rfl
          have he2 : lkD (.inl ((pp.2 : Nat) : Int)) (fs g) = some (.int (x : Nat)) := by rw [hlk, he]; rfl
          simp only [Option.map_some, Option.isSome_some, binW, eqW, d3, he2, hp2]
          by_cases hz : x + 1 = y
          · have hz' : ((x : Nat) : Int) + 1 = (y : Nat) := by omega
            simp [he, hz, hz'] at hK ⊢
            exact ⟨ha, hK⟩
          · have hz' : ¬ ((x : Nat) : Int) + 1 = (y : Nat) := by omega
            simp [he, hz, hz'] at hK ⊢
            exact hK
      · simp only [Still.out]
        refine q _ _ ⟨p2.trans (Pre.add _), by have := p2.len; omega, ?_⟩
        have e9 : nearW P L p g c = (outL L p).filter (nearB L P g y) := by
          unfold nearW
          rw [hp]
        rw [e9, at_end, ← fm_filter]
end Ly
namespace Ly
open PySem L2
open PyProof.Rows hiding St
def spPar : MSp := fun vs s Q _ => ∃ (m : Nat) (ab : List Nat), vs = [.loc m] ∧ s[m]? = some (.lst (natsM ab)) ∧ AbOk ab ∧ Q (.bl true) s
theorem law_par {Γ : Prg} : Law Γ d_are_parents spPar := by
  rintro _ s Q R ⟨m, ab, rfl, h, ⟨hl, hb⟩, q⟩
  refine ⟨rfl, ?_⟩
  show wpSs Γ b_are_parents (stM b_are_parents_N [.loc m]) _ _
  unfold b_are_parents
  rw [wpSs_cons]
  have e1 : ¬ (11 : Int) < (ab.length : Nat) := by omega
  simp [b_are_parents_N, stM, wpS, wpE, wpEs, bfW, seqOf, h, cmpW, natsM_len, e1, wpSs_nil]
  rw [wpSs_cons]
  simp only [wpS, wpI, wpE, List.getElem?_cons_zero, enmIt, h]
  have em : (natsM ab) = ab.map fun i => MV.int (i : Nat) := rfl
  rw [em, enm_map]
  refine forP (t := .obj m (natsM ab)) (fun p : Nat × Nat => MV.tup [.int (p.2 : Nat), .int (p.1 : Nat)]) (fun _ σ s' => ∃ a b, σ = [some (.loc m), a, b] ∧ s' = s) ab.zipIdx (fun i σ s' _ h' => by obtain ⟨_, _, _, rfl⟩ := h'; exact h) ?_ ?_ ⟨_, _, rfl, rfl⟩
  · rintro i ⟨x, j⟩ σ s' hx ⟨a, b, rfl, rfl⟩ k hk
    obtain ⟨hx1, hx2⟩ := zipIdx_at hx
    have := hb _ _ hx1
    simp only at this
    have g1 : ¬ ((x : Nat) : Int) < 0 := by omega
    have g2 : ¬ ((j : Nat) : Int) < (x : Nat) := by omega
    simp [tgW, tgsW]
    rw [wpSs_cons]
    simp [wpS, wpE, isiW, cmpW, g1, g2, wpSs_nil]
    exact hk _ _ ⟨_, _, rfl, rfl⟩
  · rintro σ s' ⟨a, b, rfl, rfl⟩
    simp only [Still.out]
    rw [wpSs_cons]
    simp [wpS, wpE]
    exact q
theorem law_treeways {Γ : Prg} : Law Γ d_Tree_ways spTreeWays := by
  rintro _ s Q R ⟨n, p, g, ab, c, rfl, ⟨⟨ln, kk, h1, h2, h3⟩, hab, _⟩, hp, hg, q⟩
  refine ⟨rfl, ?_⟩
  have h5 := hab.2
  obtain ⟨P, h4⟩ : ∃ P, ab.length + 1 = P := ⟨_, rfl⟩
  rw [h4] at hp hg
  have fin : ∀ l : List Nat, treeW ab p g c = l → Q (.loc s.length) (s ++ [.lst (natsM l)]) := fun l e => by
    rw [e] at q
    exact q _ _ ⟨Pre.add _, Nat.le_refl _, at_end⟩
  by_cases hpg : p = g
  · subst hpg
    simp [d_Tree_ways, b_Tree_ways, b_Tree_ways_N, stM, wpSs, wpS, wpE, wpEs, cmpW, eqW]
    exact fin [] (by simp [treeW])
  · have hpg' : ¬ ((p : Nat) : Int) = (g : Nat) := by omega
    simp [d_Tree_ways, b_Tree_ways, b_Tree_ways_N, stM, wpSs, wpS, wpE, wpEs, cmpW, eqW, hpg', tgW]
    refine ⟨fun m σ s' => ∃ (b : Nat) (d : Option MV), σ = [some (.loc n), some (.int (p : Nat)), some (.int (g : Nat)), some (cameM c), some (.int (b : Nat)), d] ∧ s' = s ∧ m = b ∧ b < P ∧ p ≠ b ∧ (p < b ∨ 0 < p) ∧ (match treeUp ab p (b + 1) b with
      | some b => [2 * b - 1]
      | none => [2 * p - 2]) = treeW ab p g c, ⟨g, g, none, rfl, rfl, rfl, hg, hpg, by omega, by unfold treeW; rw [if_neg hpg] <;> rfl⟩, ?_⟩
    rintro m σ s' ⟨b, d, rfl, hs, hm, hb, hne, h0, e⟩
    rw [hs]
    clear hs
    by_cases h : p < b
    · have hx := above_le h5 (b - 1)
      generalize hxx : ab.getD (b - 1) 0 = x at hx
      have e1 : ((b : Nat) : Int) - 1 = ((b - 1 : Nat) : Int) := by omega
      have e2 : (natsM ab)[b - 1]? = some (.int (x : Nat)) := by
        have : ab[b - 1]? = some x := by
          rw [← hxx, List.getD_eq_getElem?_getD, List.getElem?_eq_getElem (by omega)]
          rfl
        simp [natsM, this]
      have e3 : atI (natsM ab) (((b : Nat) : Int) - 1) = some (.int (x : Nat)) := by rw [e1, atN, e2]
      have h' : ((p : Nat) : Int) < (b : Nat) := by omega
      simp [cmpW, h', fldW, h1, lkM, binW, ixW, h3, atW, e3, eqW]
      by_cases hq : x = p
      · have hq' : ((x : Nat) : Int) = (p : Nat) := by omega
        simp [hq']
        refine ⟨.inl ⟨by omega, by omega⟩, by decide, ?_⟩
        have e4 : treeUp ab p (b + 1) b = some b := by
          unfold treeUp
          rw [if_pos h, hxx, if_pos hq]
        rw [e4] at e
        have := fin [2 * b - 1] e.symm
        simpa [natsM, show ((2 * b - 1 : Nat) : Int) = 2 * (b : Int) - 1 by omega] using this
      · have hq' : ¬ ((x : Nat) : Int) = (p : Nat) := by omega
        simp [hq']
        refine ⟨x, by omega, x, rfl, by omega, by omega, fun z => hq z.symm, ?_, ?_⟩
        · rcases Nat.lt_trichotomy p x with z | z | z
          · exact .inl z
          · exact absurd z.symm hq
          · exact .inr (by omega)
        · rw [← e]
          have e4 : treeUp ab p (b + 1) b = treeUp ab p b x := by
            conv => lhs; unfold treeUp
            rw [if_pos h, hxx, if_neg hq]
          rw [e4, treeUp_fuel h5 x x b (Nat.le_refl _) (by omega)]
    · have h' : ¬ ((p : Nat) : Int) < (b : Nat) := by omega
      simp [cmpW, h', binW]
      refine ⟨.inl ⟨by omega, by omega⟩, by decide, ?_⟩
      have e4 : treeUp ab p (b + 1) b = none := by
        unfold treeUp
        rw [if_neg h]
      rw [e4] at e
      have := fin [2 * p - 2] e.symm
      simpa [natsM, show ((2 * p - 2 : Nat) : Int) = 2 * (p : Int) - 2 by omega] using this
def spTree : MSp := fun vs s Q _ => ∃ (s0 : MS) (n m : Nat) (ab : List Nat), vs = [.loc n, .loc m] ∧ NewI s0 s n 41 ∧ s[m]? = some (.lst (natsM ab)) ∧ AbOk ab ∧ ∀ s', Pre s0 s' → TreeR s' n ab → FrT s0.length s' n → Q .non s'
theorem law_tree {Γ : Prg} (h40 : Γ 0 40 = some spPar) (h24 : Γ 24 0 = some spTabI) (h17 : Γ 17 0 = some spLand) : Law Γ d_Tree_init spTree := by
  rintro _ s Q R ⟨s0, n, m, ab, rfl, ⟨hp, hn, hi⟩, h, hab, q⟩
  refine ⟨rfl, ?_⟩
  show wpSs Γ b_Tree_init (stM b_Tree_init_N [.loc n, .loc m]) _ _
  unfold b_Tree_init
  have hal := hab.1
  rw [wpSs_cons]
  simp [b_Tree_init_N, stM, wpS, wpE, wpEs, callW, h40, dflt_nil, wpSs_nil]
  refine ⟨m, ab, rfl, h, hab, ?_⟩
  simp [wpSs_nil]
  rw [wpSs_cons]
  simp [wpS, wpE, wpEs, tgW]
  have x1 : (s ++ [MO.lst []])[s.length]? = some (.lst ((treeL ([] : List Nat)).map prM)) := at_end
  have p1 : Pre s (s ++ [MO.lst []]) := Pre.add _
  generalize s ++ [MO.lst []] = s1 at x1 p1
  rw [wpSs_cons]
  have em : (natsM ab) = ab.map fun i => MV.int (i : Nat) := rfl
  simp only [wpS, wpI, wpE, List.getElem?_cons_succ, List.getElem?_cons_zero, enmIt, p1.at_ h]
  rw [em, enm_map]
  refine forP (t := .obj m (natsM ab)) (fun p : Nat × Nat => MV.tup [.int (p.2 : Nat), .int (p.1 : Nat)]) (fun i σ s' => ∃ a b, σ = [some (.loc n), some (.loc m), some (.loc s.length), a, b] ∧ Pre s s' ∧ s'[s.length]? = some (.lst ((treeL (ab.take i)).map prM))) ab.zipIdx (fun i σ s' _ h' => by obtain ⟨_, _, _, z, _⟩ := h'; exact z.at_ h) ?_ ?_ ⟨_, _, rfl, p1, x1⟩
  · rintro i ⟨x, j⟩ σ s2 hx ⟨a, b, rfl, p2, x2⟩ k hk
    obtain ⟨hx1, hx2⟩ := zipIdx_at hx
    simp only at hx1 hx2
    subst hx2
    have hil := (List.getElem?_eq_some_iff.mp hx1).1
    have etk : ab.take (j + 1) = ab.take j ++ [x] := by
      rw [List.take_add_one, hx1]
      rfl
    have ln : (treeL (ab.take j)).length = 2 * j := by
      rw [treeL_len, List.length_take]
      omega
    simp only [tgW, tgsW, List.set_cons_succ, List.set_cons_zero]
    refine ⟨trivial, ?_⟩
    rw [wpSs_cons]
    simp only [wpS, wpE, wpEs, List.getElem?_cons_succ, List.getElem?_cons_zero, kindM, x2, bmK, bmW, binW]
    refine ⟨trivial, (by show 2 ≤ sizeLine; decide), by simp [sizeLine]; omega, ?_⟩
    rw [wpSs_cons]
    have x3 : (s2.set s.length (MO.lst ((treeL (ab.take j)).map prM ++ [MV.tup [.int (((j : Nat) : Int) + 1), .int (x : Nat)]])))[s.length]? = _ := List.getElem?_set_self (lt_of_at x2)
    have p3 := p2.set (Nat.le_refl _) (MO.lst ((treeL (ab.take j)).map prM ++ [MV.tup [.int (((j : Nat) : Int) + 1), .int (x : Nat)]]))
    generalize s2.set s.length (MO.lst ((treeL (ab.take j)).map prM ++ [MV.tup [.int (((j : Nat) : Int) + 1), .int (x : Nat)]])) = s3 at x3 p3
    simp only [wpS, wpE, wpEs, List.getElem?_cons_succ, List.getElem?_cons_zero, kindM, x3, bmK, bmW, binW, wpSs_nil]
    refine ⟨trivial, (by show 2 ≤ sizeLine; decide), by simp [sizeLine]; omega, ?_⟩
    refine hk _ _ ⟨_, _, rfl, p3.set (Nat.le_refl _) _, ?_⟩
    rw [List.getElem?_set_self (lt_of_at x3), etk, treeL_snoc, List.length_take, Nat.min_eq_left (by omega)]
    simp [prM]
  · rintro σ s2 ⟨a, b, rfl, p2, x2⟩
    rw [List.length_zipIdx, List.take_length] at x2
    simp only [Still.out]
    rw [wpSs_cons]
    have h17' : Γ 17 iInit = some spLand := h17
    simp only [wpS, wpE, wpEs, callW, h24, h17', mr_Land_init, List.getElem?_cons_succ, List.getElem?_cons_zero, binW, bfW, seqOf, p2.at_ h]
    have hne : n ≠ s.length := fun z => by
      have := lt_of_at hi
      omega
    have p3 : Pre s (s2 ++ [MO.ins 17 (landFs (ab.length + 1) (treeL ab))]) := p2.trans (Pre.add _)
    refine ⟨s2.length, s.length, ab.length + 1, treeL ab, by simp [natsM_len]; rfl, by have := lt_of_at x2; omega, at_end, (Pre.add _).at_ x2, tree_ok hab, rfl, n, 41, .loc s2.length, rfl, ?_, ?_⟩
    · rw [List.set_append_right _ _ (Nat.le_refl _)]
      exact (p2.trans (Pre.add _)).at_ hi
    · rw [List.set_append_right _ _ (Nat.le_refl _)]
      simp only [Nat.sub_self, List.set_cons_zero]
      have hi3 := p3.at_ hi
      have h3 := p3.at_ h
      have x3 : (s2 ++ [MO.ins 17 (landFs (ab.length + 1) (treeL ab))])[s2.length]? = some (.ins 17 (landFs (ab.length + 1) (treeL ab))) := at_end
      have p0 := hp.trans p3
      generalize s2 ++ [MO.ins 17 (landFs (ab.length + 1) (treeL ab))] = s3 at hi3 x3 p3 p0 h3
      have hne2 : n ≠ s2.length := by
        intro z
        rw [z, x3] at hi3
        cases hi3
      have hnm : n ≠ m := by
        intro z
        rw [z, h3] at hi3
        cases hi3
      have hl3 := lt_of_at hi3
      rw [wpSs_cons]
      simp [wpS, wpE, wpEs, bfW, seqOf, List.getElem?_set_ne hnm, h3, setfW, putM, wpSs_nil]
      have l4 : (s3.set n (MO.ins 41 [(25, MV.loc s2.length)])).length = s3.length := by simp
      have i4 : (s3.set n (MO.ins 41 [(25, MV.loc s2.length)]) ++ [MO.lst (natsM ab)])[n]? = some (.ins 41 [(25, .loc s2.length)]) := by
        rw [List.getElem?_append_left (by omega), List.getElem?_set_self hl3]
      have x4 : (s3.set n (MO.ins 41 [(25, MV.loc s2.length)]) ++ [MO.lst (natsM ab)])[s2.length]? = some (.ins 17 (landFs (ab.length + 1) (treeL ab))) := by
        rw [List.getElem?_append_left (by have := lt_of_at x3; omega), List.getElem?_set_ne hne2, x3]
      have h4 : (s3.set n (MO.ins 41 [(25, MV.loc s2.length)]) ++ [MO.lst (natsM ab)])[s3.length]? = some (.lst (natsM ab)) := by
        rw [← l4]
        exact at_end
      have p4 : Pre s0 (s3.set n (MO.ins 41 [(25, MV.loc s2.length)]) ++ [MO.lst (natsM ab)]) := (p0.set hn _).trans (Pre.add _)
      generalize s3.set n (MO.ins 41 [(25, MV.loc s2.length)]) ++ [MO.lst (natsM ab)] = s4 at i4 x4 h4 p4
      have hl4 := lt_of_at i4
      simp [i4, putM]
      refine q _ (p4.set hn _) ⟨⟨s2.length, s3.length, List.getElem?_set_self hl4, ?_, ?_⟩, hab, rfl⟩ (FrT.of (List.getElem?_set_self hl4) (fun k e => by simp [lkM] at e; have := p0.len; omega) (fun k e => by simp [lkM] at e) fun d kvs p g cm l e => by simp [lkM] at e)
      · show (s4.set n _)[s2.length]? = _
        rw [List.getElem?_set_ne hne2, x4]
      · rw [List.getElem?_set_ne (by omega), h4]
end Ly
namespace Ly
open PySem L2 TL
open PyProof.Rows hiding St
theorem fmod_nn (p w : Nat) : Int.fmod ((p : Nat) : Int) ((w : Nat) : Int) = ((p % w : Nat) : Int) := by
  rw [Int.fmod_eq_emod_of_nonneg _ (by omega)]
  simp
theorem fdiv_nn (p w : Nat) : Int.fdiv ((p : Nat) : Int) ((w : Nat) : Int) = ((p / w : Nat) : Int) := by
  rw [Int.fdiv_eq_ediv_of_nonneg _ (by omega)]
  simp
theorem law_rowlanes {Γ : Prg} : Law Γ d_law_row_lanes spJoined := by
  rintro _ s Q R ⟨w, h, rfl, hw, hh, hwh, q⟩
  refine ⟨rfl, ?_⟩
  have hw12 : w ≤ 12 := Nat.le_trans (Nat.le_mul_of_pos_right _ hh) hwh
  have hh12 : h ≤ 12 := Nat.le_trans (Nat.le_mul_of_pos_left _ hw) hwh
  show wpSs Γ b_law_row_lanes [some (.int (w : Nat)), some (.int (h : Nat)), none, none] s _
  unfold b_law_row_lanes
  rw [wpSs_cons]
  simp only [wpS, wE_var, wE_non, wE_bl, wE_int, wE_str, wE_glo, wE_tup, wE_lst, wE_dnew, wE_ddisp, wE_bin, wE_neg, wE_cmp, wE_chn, wE_and, wE_or, wE_not, wE_ite, wE_fld, wE_ix, wE_sl, wE_call, wE_make, wE_meth, wE_sup, wE_bf, wE_bm, wE_isi, wE_fst, wpEs, tgW, List.set_cons_zero, List.set_cons_succ]
  refine ⟨sz0, ?_⟩
  rw [wpSs_cons]
  have ew : ((w : Nat) : Int) * ((h : Nat) : Int) = ((w * h : Nat) : Int) := by simp
  simp only [wpS, wpI, wE_var, wE_non, wE_bl, wE_int, wE_str, wE_glo, wE_tup, wE_lst, wE_dnew, wE_ddisp, wE_bin, wE_neg, wE_cmp, wE_chn, wE_and, wE_or, wE_not, wE_ite, wE_fld, wE_ix, wE_sl, wE_call, wE_make, wE_meth, wE_sup, wE_bf, wE_bm, wE_isi, wE_fst, wpEs, List.getElem?_cons_zero, List.getElem?_cons_succ, binW, ew]
  refine ⟨?_, ⟨by omega, by omega⟩, ?_⟩
  · unfold CMul
    omega
  rw [rng_nats]
  refine forP (t := .free) (fun i : Nat => MV.int (i : Nat)) (fun i σ s' => ∃ a, σ = [some (.int (w : Nat)), some (.int (h : Nat)), some (.loc s.length), a] ∧ Pre s s' ∧ s'[s.length]? = some (.lst ((rowTo w h i).map prM))) (List.range (w * h)) (fun _ _ _ _ _ => trivial) ?_ ?_ ⟨none, rfl, Pre.add _, at_end⟩
  · rintro i p σ s1 hx ⟨a, rfl, m1, e1⟩ k hk
    obtain ⟨hil, hx2⟩ := List.getElem?_eq_some_iff.mp hx
    have hi : i < w * h := by simpa using hil
    have hpe : p = i := by rw [← hx2]; simp
    subst hpe
    simp only [tgW, List.set_cons_zero, List.set_cons_succ]
    have hl0 := rowTo_len (w := w) (h := h) (k := p)
    have hw0 : ((w : Nat) : Int) ≠ 0 := by omega
    have cd : CDivN ((p : Nat) : Int) ((w : Nat) : Int) := by unfold CDivN; omega
    rw [wpSs_cons]
    have hz : ∀ x : List MV, x.length ≤ 100 → x.length < sizeLine := fun x hx => by simp [sizeLine]; omega
    refine ife_app (decide (p % w + 1 < w)) (v := prM (p, p + 1)) (fun Q R hq => ?_) (fun _ Q R hq => ?_) rfl e1 (hz _ (by simp; omega)) fun s2 k2 x2 _ => ?_
    · simp only [wE_var, wE_non, wE_bl, wE_int, wE_str, wE_glo, wE_tup, wE_lst, wE_dnew, wE_ddisp, wE_bin, wE_neg, wE_cmp, wE_chn, wE_and, wE_or, wE_not, wE_ite, wE_fld, wE_ix, wE_sl, wE_call, wE_make, wE_meth, wE_sup, wE_bf, wE_bm, wE_isi, wE_fst, wpEs, List.getElem?_cons_zero, List.getElem?_cons_succ, bfW, binW, cmpW, fmod_nn]
      have : decide (((p % w : Nat) : Int) + 1 < (w : Nat)) = decide (p % w + 1 < w) := decide_eq_decide.mpr (by omega)
      rw [this]
      exact ⟨hw0, hq⟩
    · simp only [wE_var, wE_non, wE_bl, wE_int, wE_str, wE_glo, wE_tup, wE_lst, wE_dnew, wE_ddisp, wE_bin, wE_neg, wE_cmp, wE_chn, wE_and, wE_or, wE_not, wE_ite, wE_fld, wE_ix, wE_sl, wE_call, wE_make, wE_meth, wE_sup, wE_bf, wE_bm, wE_isi, wE_fst, wpEs, List.getElem?_cons_zero, List.getElem?_cons_succ, binW]
      exact ⟨sz2, hq⟩
    have m2 := k2 s m1 (Nat.le_refl _)
    clear k2
    simp only []
    rw [wpSs_cons]
    refine ife_app (decide (0 < p % w)) (v := prM (p, p - 1)) (fun Q R hq => ?_) (fun hc Q R hq => ?_) rfl x2 (hz _ (by rw [List.length_append, List.length_map]; split <;> simp <;> omega)) fun s3 k3 x3 _ => ?_
    · simp only [wE_var, wE_non, wE_bl, wE_int, wE_str, wE_glo, wE_tup, wE_lst, wE_dnew, wE_ddisp, wE_bin, wE_neg, wE_cmp, wE_chn, wE_and, wE_or, wE_not, wE_ite, wE_fld, wE_ix, wE_sl, wE_call, wE_make, wE_meth, wE_sup, wE_bf, wE_bm, wE_isi, wE_fst, wpEs, List.getElem?_cons_zero, List.getElem?_cons_succ, bfW, binW, cmpW, fmod_nn]
      have : decide ((0 : Int) < ((p % w : Nat) : Int)) = decide (0 < p % w) := decide_eq_decide.mpr (by omega)
      rw [this]
      exact ⟨hw0, hq⟩
    · have hc := of_decide_eq_true hc
      have hp : p % w ≤ p := Nat.mod_le _ _
      simp only [wE_var, wE_non, wE_bl, wE_int, wE_str, wE_glo, wE_tup, wE_lst, wE_dnew, wE_ddisp, wE_bin, wE_neg, wE_cmp, wE_chn, wE_and, wE_or, wE_not, wE_ite, wE_fld, wE_ix, wE_sl, wE_call, wE_make, wE_meth, wE_sup, wE_bf, wE_bm, wE_isi, wE_fst, wpEs, List.getElem?_cons_zero, List.getElem?_cons_succ, binW]
      have : ((p : Nat) : Int) - 1 = ((p - 1 : Nat) : Int) := by omega
      rw [this]
      exact ⟨sz2, hq⟩
    have m3 := k3 s m2 (Nat.le_refl _)
    clear k3
    simp only []
    rw [wpSs_cons]
    refine ife_app (decide (p / w + 1 < h)) (v := prM (p, p + w)) (fun Q R hq => ?_) (fun hc Q R hq => ?_) rfl x3 (hz _ (by rw [List.length_append, List.length_append, List.length_map]; split <;> split <;> simp <;> omega)) fun s4 k4 x4 _ => ?_
    · simp only [wE_var, wE_non, wE_bl, wE_int, wE_str, wE_glo, wE_tup, wE_lst, wE_dnew, wE_ddisp, wE_bin, wE_neg, wE_cmp, wE_chn, wE_and, wE_or, wE_not, wE_ite, wE_fld, wE_ix, wE_sl, wE_call, wE_make, wE_meth, wE_sup, wE_bf, wE_bm, wE_isi, wE_fst, List.getElem?_cons_zero, List.getElem?_cons_succ, binW, cmpW, fdiv_nn]
      have : decide (((p / w : Nat) : Int) + 1 < (h : Nat)) = decide (p / w + 1 < h) := decide_eq_decide.mpr (by omega)
      rw [this]
      exact ⟨cd, hq⟩
    · simp only [wE_var, wE_non, wE_bl, wE_int, wE_str, wE_glo, wE_tup, wE_lst, wE_dnew, wE_ddisp, wE_bin, wE_neg, wE_cmp, wE_chn, wE_and, wE_or, wE_not, wE_ite, wE_fld, wE_ix, wE_sl, wE_call, wE_make, wE_meth, wE_sup, wE_bf, wE_bm, wE_isi, wE_fst, wpEs, List.getElem?_cons_zero, List.getElem?_cons_succ, binW]
      exact ⟨sz2, hq⟩
    have m4 := k4 s m3 (Nat.le_refl _)
    clear k4
    simp only []
    rw [wpSs_cons]
    refine ife_app (decide (0 < p / w)) (v := prM (p, p - w)) (fun Q R hq => ?_) (fun hc Q R hq => ?_) rfl x4 (hz _ (by rw [List.length_append, List.length_append, List.length_append, List.length_map]; split <;> split <;> split <;> simp <;> omega)) fun s5 k5 x5 _ => ?_
    · simp only [wE_var, wE_non, wE_bl, wE_int, wE_str, wE_glo, wE_tup, wE_lst, wE_dnew, wE_ddisp, wE_bin, wE_neg, wE_cmp, wE_chn, wE_and, wE_or, wE_not, wE_ite, wE_fld, wE_ix, wE_sl, wE_call, wE_make, wE_meth, wE_sup, wE_bf, wE_bm, wE_isi, wE_fst, List.getElem?_cons_zero, List.getElem?_cons_succ, binW, cmpW, fdiv_nn]
      have : decide ((0 : Int) < ((p / w : Nat) : Int)) = decide (0 < p / w) := decide_eq_decide.mpr (by omega)
      rw [this]
      exact ⟨cd, hq⟩
    · have hc := of_decide_eq_true hc
      have hp : w ≤ p := by
        rcases Nat.lt_or_ge p w with z | z
        · rw [Nat.div_eq_of_lt z] at hc
          omega
        · exact z
      simp only [wE_var, wE_non, wE_bl, wE_int, wE_str, wE_glo, wE_tup, wE_lst, wE_dnew, wE_ddisp, wE_bin, wE_neg, wE_cmp, wE_chn, wE_and, wE_or, wE_not, wE_ite, wE_fld, wE_ix, wE_sl, wE_call, wE_make, wE_meth, wE_sup, wE_bf, wE_bm, wE_isi, wE_fst, wpEs, List.getElem?_cons_zero, List.getElem?_cons_succ, binW]
      have : ((p : Nat) : Int) - ((w : Nat) : Int) = ((p - w : Nat) : Int) := by omega
      rw [this]
      exact ⟨sz2, hq⟩
    have m5 := k5 s m4 (Nat.le_refl _)
    clear k5
    simp only [wpSs_nil]
    refine hk _ _ ⟨_, rfl, m5, ?_⟩
    rw [x5, rowTo_succ]
    unfold rowAt
    have hif : ∀ (c : Prop) [Decidable c] (q : Nat × Nat), (if decide c = true then [prM q] else []) = (if c then [q] else []).map prM := fun c _ q => by
      by_cases h : c <;> simp [h]
    simp only [hif, List.map_append, List.append_assoc]
  · rintro σ s1 ⟨a, rfl, m1, e1⟩
    simp only [Still.out]
    rw [wpSs_cons]
    simp only [wpS, wE_var, wE_non, wE_bl, wE_int, wE_str, wE_glo, wE_tup, wE_lst, wE_dnew, wE_ddisp, wE_bin, wE_neg, wE_cmp, wE_chn, wE_and, wE_or, wE_not, wE_ite, wE_fld, wE_ix, wE_sl, wE_call, wE_make, wE_meth, wE_sup, wE_bf, wE_bm, wE_isi, wE_fst, List.getElem?_cons_zero, List.getElem?_cons_succ]
    rw [List.length_range] at e1
    exact q s1 _ ⟨m1, Nat.le_refl _, e1⟩
theorem eqv_pr (a b : Nat × Nat) : PyData.eqv (.tuple [.int (a.1 : Nat), .int (a.2 : Nat)]) (.tuple [.int (b.1 : Nat), .int (b.2 : Nat)]) = decide (a = b) := by
  simp only [PyData.eqv, PyData.eqvAll, eqv_int]
  rw [Bool.eq_iff_iff]
  simp [Prod.ext_iff]
  omega
theorem shaped_pr1 (a b : Int) : SeqAt.shaped (.tuple [.int a, .int b]) = true := by
  unfold SeqAt.shaped
  rw [Bool.and_eq_true]
  exact ⟨rfl, decide_eq_true (by simp [PyData.depth, PyData.depthAll])⟩
/-- lanes.index(q) -/
theorem index_pr {s : MS} {n j : Nat} {L : List (Nat × Nat)} {q : Nat × Nat} (h : s[n]? = some (.lst (L.map prM))) (hj : L[j]? = some q) (hno : ∀ m, m < j → L[m]? ≠ some q) {Q : QV} (hq : Q (.int (j : Nat)) s) : bmW .index (.loc n) [prM q] s Q := by
  simp only [bmW, h]
  refine .inr ⟨_, _, j, .tuple [.int (q.1 : Nat), .int (q.2 : Nat)], .tup (.cons (.int _) (.cons (.int _) .nil)), dats_pr s L, shaped_pr L, shaped_pr1 _ _, ?_, ?_, fun m z hm hz => ?_, hq⟩
  · rw [List.getElem?_map, hj]
    rfl
  · rw [eqv_pr]
    exact decide_eq_true rfl
  · rw [List.getElem?_map] at hz
    cases e : L[m]? with
    | none => rw [e] at hz; cases hz
    | some q' =>
      rw [e] at hz
      cases hz
      rw [eqv_pr]
      refine decide_eq_false fun z => ?_
      subst z
      exact hno m hm e
def lawO (w p g : Nat) : Nat := if p % w = g % w then (if g < p then p - w else p + w) else (if p % w < g % w then p + 1 else p - 1)
def rowChk (w h p g : Nat) : Bool := match rowW w h p g none with
  | [j] => decide ((rowL w h)[j]? = some (p, lawO w p g)) && ((List.range j).all fun m => !decide ((rowL w h)[m]? = some (p, lawO w p g)))
  | _ => false
theorem row_chk : ∀ w ∈ List.range 13, ∀ h ∈ List.range 13, 1 ≤ w → 1 ≤ h → w * h ≤ 12 → ∀ p ∈ List.range (w * h), ∀ g ∈ List.range (w * h), p ≠ g → rowChk w h p g = true := by decide +kernel
theorem row_one {w h p g : Nat} {c : Option Nat} (hw : 1 ≤ w) (hh : 1 ≤ h) (hwh : w * h ≤ 12) (hp : p < w * h) (hg : g < w * h) (hne : p ≠ g) : ∃ j, rowW w h p g c = [j] ∧ (rowL w h)[j]? = some (p, lawO w p g) ∧ ∀ m, m < j → (rowL w h)[m]? ≠ some (p, lawO w p g) := by
  have h1 : w ≤ w * h := Nat.le_mul_of_pos_right _ hh
  have h2 : h ≤ w * h := Nat.le_mul_of_pos_left _ hw
  have := row_chk w (by simp; omega) h (by simp; omega) hw hh hwh p (by simpa using hp) g (by simpa using hg) hne
  unfold rowChk at this
  have e0 : rowW w h p g c = rowW w h p g none := rfl
  rw [e0]
  split at this
  · rename_i j e
    rw [Bool.and_eq_true, decide_eq_true_iff, List.all_eq_true] at this
    exact ⟨j, e, this.1, fun m hm z => by
      have := this.2 m (List.mem_range.mpr hm)
      rw [z] at this
      simp at this⟩
  · cases this
def spLawRow : MSp := fun vs s Q _ => ∃ (w h m p g : Nat), vs = [.int (w : Nat), .loc m, .int (p : Nat), .int (g : Nat)] ∧ s[m]? = some (.lst ((rowL w h).map prM)) ∧ 1 ≤ w ∧ 1 ≤ h ∧ w * h ≤ 12 ∧ p < w * h ∧ g < w * h ∧ p ≠ g ∧ ∀ s' k, NewL s s' k (natsM (rowW w h p g none)) → Q (.loc k) s'
theorem law_lawrow {Γ : Prg} : Law Γ d_law_row_ways spLawRow := by
  rintro _ s Q R ⟨w, h, m, p, g, rfl, hm, hw, hh, hwh, hp, hg, hne, q⟩
  refine ⟨rfl, ?_⟩
  obtain ⟨j, hj1, hj2, hj3⟩ := row_one (c := none) hw hh hwh hp hg hne
  have hpp := (row_ok hw hh hwh).lt _ (List.mem_of_getElem? hj2)
  have hw0 : ((w : Nat) : Int) ≠ 0 := by omega
  show wpSs Γ b_law_row_ways [some (.int (w : Nat)), some (.loc m), some (.int (p : Nat)), some (.int (g : Nat)), none] s _
  unfold b_law_row_ways
  rw [wpSs_cons]
  simp only [wpS, wE_var, wE_non, wE_bl, wE_int, wE_str, wE_glo, wE_tup, wE_lst, wE_dnew, wE_ddisp, wE_bin, wE_neg, wE_cmp, wE_chn, wE_and, wE_or, wE_not, wE_ite, wE_fld, wE_ix, wE_sl, wE_call, wE_make, wE_meth, wE_sup, wE_bf, wE_bm, wE_isi, wE_fst, wpEs, tgW, List.getElem?_cons_zero, List.getElem?_cons_succ, List.set_cons_zero, List.set_cons_succ, binW]
  have tail : ∀ (o : Int) (s1 : MS), Pre s s1 → o = ((lawO w p g : Nat) : Int) → wpSs Γ (.cons (.ret (.lst (.cons (.bm .index (.var 1) (.cons (.tup (.cons (.var 2) (.cons (.var 4) .nil))) .nil)) .nil))) .nil) [some (.int (w : Nat)), some (.loc m), some (.int (p : Nat)), some (.int (g : Nat)), some (.int o)] s1 { nx := fun _ s' => Q .non s', rt := Q, ex := fun y _ s' => R y s' } := by
    intro o s1 p1 ho
    subst ho
    rw [wpSs_cons]
    simp only [wpS, wE_var, wE_non, wE_bl, wE_int, wE_str, wE_glo, wE_tup, wE_lst, wE_dnew, wE_ddisp, wE_bin, wE_neg, wE_cmp, wE_chn, wE_and, wE_or, wE_not, wE_ite, wE_fld, wE_ix, wE_sl, wE_call, wE_make, wE_meth, wE_sup, wE_bf, wE_bm, wE_isi, wE_fst, wpEs, List.getElem?_cons_zero, List.getElem?_cons_succ, kindM, p1.at_ hm, bmK]
    refine ⟨trivial, sz2, ?_⟩
    refine index_pr (q := (p, lawO w p g)) (p1.at_ hm) hj2 hj3 ?_
    refine ⟨sz1, q _ _ ⟨p1.trans (Pre.add _), p1.len, ?_⟩⟩
    rw [at_end, hj1]
    rfl
  rw [wpSs_cons]
  have e1 : decide ((((p % w : Nat) : Nat) : Int) = ((g % w : Nat) : Int)) = decide (p % w = g % w) := decide_eq_decide.mpr (by omega)
  have e2 : decide ((((p % w : Nat) : Nat) : Int) < ((g % w : Nat) : Int)) = decide (p % w < g % w) := decide_eq_decide.mpr (by omega)
  simp only [wpS, wE_var, wE_non, wE_bl, wE_int, wE_str, wE_glo, wE_tup, wE_lst, wE_dnew, wE_ddisp, wE_bin, wE_neg, wE_cmp, wE_chn, wE_and, wE_or, wE_not, wE_ite, wE_fld, wE_ix, wE_sl, wE_call, wE_make, wE_meth, wE_sup, wE_bf, wE_bm, wE_isi, wE_fst, wpEs, List.getElem?_cons_zero, List.getElem?_cons_succ, bfW, binW, cmpW, eqW_int, fmod_nn, e1]
  refine ⟨hw0, hw0, ?_⟩
  by_cases hc : p % w = g % w
  · simp only [hc, decide_true, Bool.not_true]
    rw [wpSs_cons]
    simp only [wpS, wE_var, wE_non, wE_bl, wE_int, wE_str, wE_glo, wE_tup, wE_lst, wE_dnew, wE_ddisp, wE_bin, wE_neg, wE_cmp, wE_chn, wE_and, wE_or, wE_not, wE_ite, wE_fld, wE_ix, wE_sl, wE_call, wE_make, wE_meth, wE_sup, wE_bf, wE_bm, wE_isi, wE_fst, List.getElem?_cons_zero, List.getElem?_cons_succ, cmpW]
    by_cases hgp : g < p
    · have hgp' : ((g : Nat) : Int) < (p : Nat) := by omega
      simp only [hgp', decide_true]
      rw [wpSs_cons]
      simp only [wpS, wE_var, wE_non, wE_bl, wE_int, wE_str, wE_glo, wE_tup, wE_lst, wE_dnew, wE_ddisp, wE_bin, wE_neg, wE_cmp, wE_chn, wE_and, wE_or, wE_not, wE_ite, wE_fld, wE_ix, wE_sl, wE_call, wE_make, wE_meth, wE_sup, wE_bf, wE_bm, wE_isi, wE_fst, List.getElem?_cons_zero, List.getElem?_cons_succ, binW, tgW, List.set_cons_zero, List.set_cons_succ, wpSs_nil]
      refine tail _ s Pre.refl ?_
      unfold lawO
      rw [if_pos hc, if_pos hgp]
      have : w ≤ p := by
        rcases Nat.lt_or_ge p w with z | z
        · rw [Nat.mod_eq_of_lt z, Nat.mod_eq_of_lt (by omega)] at hc
          omega
        · exact z
      omega
    · have hgp' : ¬ ((g : Nat) : Int) < (p : Nat) := by omega
      simp only [hgp', decide_false, wpSs_nil]
      refine tail _ s Pre.refl ?_
      unfold lawO
      rw [if_pos hc, if_neg hgp]
      omega
  · simp only [hc, decide_false, Bool.not_false]
    rw [wpSs_cons]
    simp only [wpS, wE_var, wE_non, wE_bl, wE_int, wE_str, wE_glo, wE_tup, wE_lst, wE_dnew, wE_ddisp, wE_bin, wE_neg, wE_cmp, wE_chn, wE_and, wE_or, wE_not, wE_ite, wE_fld, wE_ix, wE_sl, wE_call, wE_make, wE_meth, wE_sup, wE_bf, wE_bm, wE_isi, wE_fst, wpEs, List.getElem?_cons_zero, List.getElem?_cons_succ]
    refine ⟨sz2, ?_⟩
    simp only [List.getElem?_cons_zero, List.getElem?_cons_succ, bfW, binW, cmpW, fmod_nn, e2]
    refine ⟨hw0, hw0, ?_⟩
    simp only [ixW, at_end, atW]
    have ei : atI [MV.int (-1), MV.int 1] (if decide (p % w < g % w) = true then 1 else 0) = some (.int (if p % w < g % w then 1 else -1)) := by
      by_cases hlt : p % w < g % w
      · simp only [hlt, decide_true, if_true]
        rw [at1]
        rfl
      · simp only [hlt, decide_false]
        rw [if_neg (by decide), if_neg (by decide), at0]
        rfl
    rw [ei]
    simp only [binW, tgW, List.set_cons_zero, List.set_cons_succ, wpSs_nil]
    refine tail _ _ (Pre.add _) ?_
    unfold lawO
    rw [if_neg hc]
    by_cases hlt : p % w < g % w
    · rw [if_pos hlt, if_pos hlt]
      omega
    · rw [if_neg hlt, if_neg hlt]
      have : 1 ≤ p := by
        rcases Nat.eq_zero_or_pos p with z | z
        · subst z
          simp at hlt hc
          omega
        · exact z
      omega
def spLawLoop : MSp := fun vs s Q _ => ∃ (P p g : Nat) (c : Option Nat), vs = [.int (P : Nat), .int (p : Nat), cameM c] ∧ 2 ≤ P ∧ P ≤ 12 ∧ p ≠ g ∧ ∀ s' k, NewL s s' k (natsM (loopW P p g c)) → Q (.loc k) s'
theorem law_lawloop {Γ : Prg} : Law Γ d_law_loop_ways spLawLoop := by
  rintro _ s Q R ⟨P, p, g, c, rfl, hP, hP2, hne, q⟩
  refine ⟨rfl, ?_⟩
  show wpSs Γ b_law_loop_ways [some (.int (P : Nat)), some (.int (p : Nat)), some (cameM c)] s _
  unfold b_law_loop_ways
  rw [wpSs_cons]
  have fin : ∀ (b : Bool) (l : List Nat), loopW P p g c = l → l = [if b = true then P + p else p] → CMul ((P : Nat) : Int) (if b = true then 1 else 0) ∧ [MV.int (((p : Nat) : Int) + ((P : Nat) : Int) * (if b = true then 1 else 0))].length ≤ sizeLine ∧ Q (.loc s.length) (s ++ [.lst [MV.int (((p : Nat) : Int) + ((P : Nat) : Int) * (if b = true then 1 else 0))]]) := by
    intro b l h1 h2
    refine ⟨?_, sz1, q _ _ ⟨Pre.add _, Nat.le_refl _, ?_⟩⟩
    · unfold CMul
      omega
    · rw [at_end, h1, h2]
      cases b <;> simp [natsM] <;> omega
  cases c with
  | none =>
    simp only [wpS, wE_var, wE_non, wE_bl, wE_int, wE_str, wE_glo, wE_tup, wE_lst, wE_dnew, wE_ddisp, wE_bin, wE_neg, wE_cmp, wE_chn, wE_and, wE_or, wE_not, wE_ite, wE_fld, wE_ix, wE_sl, wE_call, wE_make, wE_meth, wE_sup, wE_bf, wE_bm, wE_isi, wE_fst, wpEs, List.getElem?_cons_zero, List.getElem?_cons_succ, cameM, cmpW, bfW, binW]
    exact fin false _ rfl (by unfold loopW; rw [if_neg hne]; simp)
  | some i =>
    simp only [wpS, wE_var, wE_non, wE_bl, wE_int, wE_str, wE_glo, wE_tup, wE_lst, wE_dnew, wE_ddisp, wE_bin, wE_neg, wE_cmp, wE_chn, wE_and, wE_or, wE_not, wE_ite, wE_fld, wE_ix, wE_sl, wE_call, wE_make, wE_meth, wE_sup, wE_bf, wE_bm, wE_isi, wE_fst, wpEs, List.getElem?_cons_zero, List.getElem?_cons_succ, cameM, cmpW, bfW, binW, eqW_int]
    by_cases h1 : i = P - 1
    · have h1' : ((i : Nat) : Int) = ((P : Nat) : Int) - 1 := by omega
      simp only [h1', decide_true]
      exact fin true _ rfl (by unfold loopW; rw [if_neg hne, if_pos (decide_eq_true (by omega))]; rfl)
    · have h1' : ¬ ((i : Nat) : Int) = ((P : Nat) : Int) - 1 := by omega
      simp only [h1', decide_false]
      by_cases h2 : P ≤ i
      · have h2' : ((P : Nat) : Int) ≤ (i : Nat) := by omega
        simp only [h2', decide_true]
        exact fin true _ rfl (by unfold loopW; rw [if_neg hne, if_pos (decide_eq_true (by omega))]; rfl)
      · have h2' : ¬ ((P : Nat) : Int) ≤ (i : Nat) := by omega
        simp only [h2', decide_false]
        exact fin false _ rfl (by unfold loopW; rw [if_neg hne, if_neg (by simp; omega)]; rfl)
end Ly
namespace Ly
open PySem L2 TL
open PyProof.Rows hiding St
/-! ### a tree's ways by the law -/
/-- the law's walk up: below, at -/
def upL (ab : List Nat) (p : Nat) : Nat → Nat → Nat → Nat × Nat
  | 0, b, a => (b, a)
  | k + 1, b, a => if a ≠ 0 ∧ a ≠ p then upL ab p k a (ab.getD (a - 1) 0) else (b, a)
theorem upL_tree {ab : List Nat} {p : Nat} (hb : ∀ (i x : Nat), ab[i]? = some x → x ≤ i) : ∀ (k a b : Nat), a < k → a ≠ p → (p < a → treeUp ab p (a + 1) a = (if (upL ab p k b a).2 = p then some (upL ab p k b a).1 else none)) ∧ (a < p → (upL ab p k b a).2 ≠ p)
  | 0, a, b, h, _ => absurd h (Nat.not_lt_zero a)
  | k + 1, a, b, h, hne => by
    have hx := above_le hb (a - 1)
    by_cases ha : a = 0
    · subst ha
      have e : upL ab p (k + 1) b 0 = (b, 0) := by unfold upL; rw [if_neg (by simp)]
      refine ⟨fun z => absurd z (Nat.not_lt_zero p), fun z => ?_⟩
      rw [e]
      simp only
      omega
    · have e : upL ab p (k + 1) b a = upL ab p k a (ab.getD (a - 1) 0) := by
        conv => lhs; unfold upL
        rw [if_pos ⟨ha, hne⟩]
      rw [e]
      generalize hxx : ab.getD (a - 1) 0 = x at hx
      by_cases hxp : x = p
      · subst hxp
        have e2 : upL ab x k a x = (a, x) := by
          cases k with
          | zero => rfl
          | succ k => unfold upL; rw [if_neg (by simp)]
        rw [e2]
        refine ⟨fun hpa => ?_, fun hpa => by omega⟩
        unfold treeUp
        rw [if_pos hpa, hxx, if_pos rfl, if_pos rfl]
      · obtain ⟨i1, i2⟩ := upL_tree hb k x a (by omega) hxp
        refine ⟨fun hpa => ?_, fun hpa => i2 (by omega)⟩
        have e3 : treeUp ab p (a + 1) a = treeUp ab p a x := by
          conv => lhs; unfold treeUp
          rw [if_pos hpa, hxx, if_neg hxp]
        rw [e3, treeUp_fuel hb x x a (Nat.le_refl _) (by omega)]
        rcases Nat.lt_or_ge p x with z | z
        · exact i1 z
        · rw [if_neg (i2 (by omega))]
          unfold treeUp
          rw [if_neg (by omega)]
def spLawTree : MSp := fun vs s Q _ => ∃ (m p g : Nat) (ab : List Nat), vs = [.loc m, .int (p : Nat), .int (g : Nat)] ∧ s[m]? = some (.lst (natsM ab)) ∧ AbOk ab ∧ p < ab.length + 1 ∧ g < ab.length + 1 ∧ p ≠ g ∧ ∀ s' k, NewL s s' k (natsM (treeW ab p g none)) → Q (.loc k) s'
theorem upL_at {ab : List Nat} {p : Nat} (hb : ∀ (i x : Nat), ab[i]? = some x → x ≤ i) : ∀ (k b a : Nat), a < k → ((upL ab p k b a).2 = 0 ∨ (upL ab p k b a).2 = p) ∧ (upL ab p k b a).1 ≤ max b a
  | 0, b, a, h => absurd h (Nat.not_lt_zero a)
  | k + 1, b, a, h => by
    unfold upL
    have hx := above_le hb (a - 1)
    by_cases hc : a ≠ 0 ∧ a ≠ p
    · rw [if_pos hc]
      have := upL_at (p := p) hb k a (ab.getD (a - 1) 0) (by omega)
      refine ⟨this.1, Nat.le_trans this.2 ?_⟩
      omega
    · rw [if_neg hc]
      simp only
      exact ⟨by omega, Nat.le_max_left _ _⟩
theorem law_lawtree {Γ : Prg} : Law Γ d_law_tree_ways spLawTree := by
  rintro _ s Q R ⟨m, p, g, ab, rfl, hm, hab, hp, hg, hne, q⟩
  refine ⟨rfl, ?_⟩
  have hb := hab.2
  show wpSs Γ b_law_tree_ways [some (.loc m), some (.int (p : Nat)), some (.int (g : Nat)), none, none] s _
  unfold b_law_tree_ways
  rw [wpSs_cons]
  simp only [wpS, wE_var, wE_non, wE_bl, wE_int, wE_str, wE_glo, wE_tup, wE_lst, wE_dnew, wE_ddisp, wE_bin, wE_neg, wE_cmp, wE_chn, wE_and, wE_or, wE_not, wE_ite, wE_fld, wE_ix, wE_sl, wE_call, wE_make, wE_meth, wE_sup, wE_bf, wE_bm, wE_isi, wE_fst, tgW, List.getElem?_cons_zero, List.getElem?_cons_succ, List.set_cons_zero, List.set_cons_succ]
  rw [wpSs_cons]
  simp only [wpS, wE_var, wE_non, wE_bl, wE_int, wE_str, wE_glo, wE_tup, wE_lst, wE_dnew, wE_ddisp, wE_bin, wE_neg, wE_cmp, wE_chn, wE_and, wE_or, wE_not, wE_ite, wE_fld, wE_ix, wE_sl, wE_call, wE_make, wE_meth, wE_sup, wE_bf, wE_bm, wE_isi, wE_fst, tgW, List.getElem?_cons_zero, List.getElem?_cons_succ, List.set_cons_zero, List.set_cons_succ]
  rw [wpSs_cons]
  simp only [wpS]
  obtain ⟨WI, hWI⟩ : ∃ WI : Nat → MEnv → MS → Prop, WI = fun M σ s' => ∃ (b a : Nat), σ = [some (.loc m), some (.int (p : Nat)), some (.int (g : Nat)), some (.int (b : Nat)), some (.int (a : Nat))] ∧ s' = s ∧ a = M ∧ a < ab.length + 1 ∧ upL ab p (a + 1) b a = upL ab p (g + 1) g g := ⟨_, rfl⟩
  refine ⟨WI, ⟨g, by rw [hWI]; exact ⟨g, g, rfl, rfl, rfl, hg, rfl⟩⟩, ?_⟩
  intro M σ s1 hI
  rw [hWI] at hI
  obtain ⟨b, a, rfl, hs1, rfl, ha, he⟩ := hI
  rw [hs1]
  clear hs1
  simp only [wE_var, wE_non, wE_bl, wE_int, wE_str, wE_glo, wE_tup, wE_lst, wE_dnew, wE_ddisp, wE_bin, wE_neg, wE_cmp, wE_chn, wE_and, wE_or, wE_not, wE_ite, wE_fld, wE_ix, wE_sl, wE_call, wE_make, wE_meth, wE_sup, wE_bf, wE_bm, wE_isi, wE_fst, List.getElem?_cons_zero, List.getElem?_cons_succ, cmpW, eqW_int]
  have stop : ¬ (a ≠ 0 ∧ a ≠ p) → wpSs Γ (.cons (.ife (.cmp .eq (.var 4) (.var 1)) (.cons (.ret (.lst (.cons (.bin .sub (.bin .mul (.int 2) (.var 3)) (.int 1)) .nil))) .nil) (.nil))
    (.cons (.ret (.lst (.cons (.bin .sub (.bin .mul (.int 2) (.var 1)) (.int 2)) .nil))) .nil)) [some (.loc m), some (.int (p : Nat)), some (.int (g : Nat)), some (.int (b : Nat)), some (.int (a : Nat))] s { nx := fun _ s' => Q .non s', rt := Q, ex := fun y _ s' => R y s' } := by
    intro hc
    have e1 : upL ab p (a + 1) b a = (b, a) := by unfold upL; rw [if_neg hc]
    rw [e1] at he
    obtain ⟨t1, t2⟩ := upL_tree hb (g + 1) g g (by omega) (fun z => hne z.symm)
    rw [← he] at t1 t2
    simp only at t1 t2
    have hw : treeW ab p g none = if a = p then [2 * b - 1] else [2 * p - 2] := by
      unfold treeW
      rw [if_neg hne]
      rcases Nat.lt_or_ge p g with z | z
      · rw [t1 z]
        by_cases hap : a = p
        · rw [if_pos hap, if_pos hap]
        · rw [if_neg hap, if_neg hap]
      · have hz := t2 (by omega)
        rw [if_neg hz]
        have : treeUp ab p (g + 1) g = none := by unfold treeUp; rw [if_neg (by omega)]
        rw [this]
    have cm : ∀ x : Nat, CMul 2 ((x : Nat) : Int) := fun x => by unfold CMul; omega
    rw [wpSs_cons]
    simp only [wpS, wE_var, wE_non, wE_bl, wE_int, wE_str, wE_glo, wE_tup, wE_lst, wE_dnew, wE_ddisp, wE_bin, wE_neg, wE_cmp, wE_chn, wE_and, wE_or, wE_not, wE_ite, wE_fld, wE_ix, wE_sl, wE_call, wE_make, wE_meth, wE_sup, wE_bf, wE_bm, wE_isi, wE_fst, wpEs, List.getElem?_cons_zero, List.getElem?_cons_succ, cmpW, eqW_int]
    by_cases hap : a = p
    · have hap' : ((a : Nat) : Int) = (p : Nat) := by omega
      simp only [hap', decide_true]
      rw [wpSs_cons]
      simp only [wpS, wE_var, wE_non, wE_bl, wE_int, wE_str, wE_glo, wE_tup, wE_lst, wE_dnew, wE_ddisp, wE_bin, wE_neg, wE_cmp, wE_chn, wE_and, wE_or, wE_not, wE_ite, wE_fld, wE_ix, wE_sl, wE_call, wE_make, wE_meth, wE_sup, wE_bf, wE_bm, wE_isi, wE_fst, wpEs, List.getElem?_cons_zero, List.getElem?_cons_succ, binW]
      refine ⟨cm b, sz1, q _ _ ⟨Pre.add _, Nat.le_refl _, ?_⟩⟩
      rw [at_end, hw, if_pos hap]
      have h1 := (upL_at (p := p) hb (g + 1) g g (by omega)).2
      have hb1 : 1 ≤ b := by
        rcases Nat.lt_or_ge p g with z | z
        · have := t1 z
          rw [if_pos hap] at this
          have := (treeUp_at this).1
          omega
        · exact absurd hap (t2 (by omega))
      simp [natsM]
      omega
    · have hap' : ¬ ((a : Nat) : Int) = (p : Nat) := by omega
      simp only [hap', decide_false, wpSs_nil]
      rw [wpSs_cons]
      simp only [wpS, wE_var, wE_non, wE_bl, wE_int, wE_str, wE_glo, wE_tup, wE_lst, wE_dnew, wE_ddisp, wE_bin, wE_neg, wE_cmp, wE_chn, wE_and, wE_or, wE_not, wE_ite, wE_fld, wE_ix, wE_sl, wE_call, wE_make, wE_meth, wE_sup, wE_bf, wE_bm, wE_isi, wE_fst, wpEs, List.getElem?_cons_zero, List.getElem?_cons_succ, binW]
      refine ⟨cm p, sz1, q _ _ ⟨Pre.add _, Nat.le_refl _, ?_⟩⟩
      rw [at_end, hw, if_neg hap]
      have hp1 : 1 ≤ p := by
        rcases Nat.eq_zero_or_pos p with z | z
        · subst z
          have : a = 0 := Classical.not_not.mp fun y => hc ⟨y, hap⟩
          exact absurd this hap
        · exact z
      simp [natsM]
      omega
  by_cases h0 : a = 0
  · have h0' : ((a : Nat) : Int) = 0 := by omega
    have hs := stop (fun z => z.1 h0)
    rw [h0] at hs ⊢
    simp only [Int.natCast_zero, decide_true, Bool.not_true] at hs ⊢
    exact hs
  · have h0' : ¬ ((a : Nat) : Int) = 0 := by omega
    simp only [h0', decide_false, Bool.not_false]
    by_cases hap : a = p
    · have hap' : ((a : Nat) : Int) = (p : Nat) := by omega
      have hs := stop (fun z => z.2 hap)
      rw [hap] at hs ⊢
      simp only [decide_true, Bool.not_true] at hs ⊢
      exact hs
    · have hap' : ¬ ((a : Nat) : Int) = (p : Nat) := by omega
      simp only [hap', decide_false, Bool.not_false]
      have hx := above_le hb (a - 1)
      obtain ⟨x, hxx⟩ : ∃ x, ab[a - 1]? = some x := ⟨_, List.getElem?_eq_getElem (by omega)⟩
      have hgd : ab.getD (a - 1) 0 = x := by rw [List.getD_eq_getElem?_getD, hxx]; rfl
      rw [hgd] at hx
      have e3 : atI (natsM ab) (((a : Nat) : Int) - 1) = some (.int (x : Nat)) := by
        rw [show ((a : Nat) : Int) - 1 = ((a - 1 : Nat) : Int) by omega, atN]
        simp [natsM, hxx]
      rw [wpSs_cons]
      simp only [wpS, wE_var, wE_non, wE_bl, wE_int, wE_str, wE_glo, wE_tup, wE_lst, wE_dnew, wE_ddisp, wE_bin, wE_neg, wE_cmp, wE_chn, wE_and, wE_or, wE_not, wE_ite, wE_fld, wE_ix, wE_sl, wE_call, wE_make, wE_meth, wE_sup, wE_bf, wE_bm, wE_isi, wE_fst, tgW, List.getElem?_cons_zero, List.getElem?_cons_succ, List.set_cons_zero, List.set_cons_succ]
      rw [wpSs_cons]
      simp only [wpS, wE_var, wE_non, wE_bl, wE_int, wE_str, wE_glo, wE_tup, wE_lst, wE_dnew, wE_ddisp, wE_bin, wE_neg, wE_cmp, wE_chn, wE_and, wE_or, wE_not, wE_ite, wE_fld, wE_ix, wE_sl, wE_call, wE_make, wE_meth, wE_sup, wE_bf, wE_bm, wE_isi, wE_fst, tgW, List.getElem?_cons_zero, List.getElem?_cons_succ, List.set_cons_zero, List.set_cons_succ, binW, ixW, hm, atW, e3, wpSs_nil]
      refine ⟨x, by omega, ?_⟩
      rw [hWI]
      refine ⟨a, x, rfl, rfl, rfl, by omega, ?_⟩
      rw [← he]
      have e4 : upL ab p (a + 1) b a = upL ab p a a x := by
        conv => lhs; unfold upL
        rw [if_pos ⟨h0, hap⟩, hgd]
      rw [e4]
      have fuel : ∀ (n k b y : Nat), y ≤ n → y < k → upL ab p k b y = upL ab p (y + 1) b y := by
        intro n
        induction n with
        | zero =>
          intro k b y h1 h2
          obtain ⟨k, rfl⟩ : ∃ j, k = j + 1 := ⟨k - 1, by omega⟩
          have : y = 0 := by omega
          subst this
          unfold upL
          rw [if_neg (by simp), if_neg (by simp)]
        | succ n ih =>
          intro k b y h1 h2
          obtain ⟨k, rfl⟩ : ∃ j, k = j + 1 := ⟨k - 1, by omega⟩
          have hy := above_le hb (y - 1)
          unfold upL
          by_cases hc : y ≠ 0 ∧ y ≠ p
          · rw [if_pos hc, if_pos hc]
            rw [ih k y _ (by omega) (by omega), ih y y _ (by omega) (by omega)]
          · rw [if_neg hc, if_neg hc]
      exact (fuel x a a x (Nat.le_refl _) (by omega)).symm
/-! ### how far, by the law -/
/-- what the law has found in a round, behind some lanes -/
def lawF (L : List (Nat × Nat)) (g k j p : Nat) : Option Nat := match farK L g k p with
  | some d => some d
  | none => if ((L.take j).any fun q => decide (q.1 = p) && decide (farK L g k q.2 = some k)) = true then some (k + 1) else none
theorem lawF_full {L : List (Nat × Nat)} {g k p : Nat} : lawF L g k L.length p = farK L g (k + 1) p := by
  unfold lawF
  rw [List.take_length]
  rfl
theorem lawF_zero {L : List (Nat × Nat)} {g k p : Nat} : lawF L g k 0 p = farK L g k p := by
  unfold lawF
  cases farK L g k p <;> rfl
theorem lawF_succ {L : List (Nat × Nat)} {g k j p : Nat} {q : Nat × Nat} (h : L[j]? = some q) : lawF L g k (j + 1) p = if farK L g k q.2 = some k ∧ lawF L g k j q.1 = none ∧ q.1 = p then some (k + 1) else lawF L g k j p := by
  unfold lawF
  rw [List.take_add_one, h, List.any_append]
  cases e : farK L g k p with
  | some d =>
    simp only
    rw [if_neg]
    rintro ⟨_, h2, rfl⟩
    rw [e] at h2
    cases h2
  | none =>
    simp only [Option.toList, List.any_cons, List.any_nil, Bool.or_false]
    by_cases hp : q.1 = p
    · subst hp
      rw [e]
      by_cases h1 : farK L g k q.2 = some k
      · by_cases hb : ((L.take j).any fun q' => decide (q'.1 = q.1) && decide (farK L g k q'.2 = some k)) = true
        · simp [hb]
        · simp [hb, h1]
      · rw [decide_eq_false h1, Bool.and_false, Bool.or_false]
        conv => rhs; rw [if_neg (fun z => h1 z.1)]
    · rw [decide_eq_false hp, Bool.false_and, Bool.or_false]
      conv => rhs; rw [if_neg (fun z => hp z.2.2)]
theorem lawF_k {L : List (Nat × Nat)} {g k j p : Nat} : lawF L g k j p = some k ↔ farK L g k p = some k := by
  unfold lawF
  cases e : farK L g k p with
  | some d => rfl
  | none =>
    simp only
    constructor
    · intro h
      split at h
      · injection h with h
        omega
      · cases h
    · intro h
      cases h
def spFar : MSp := fun vs s Q _ => ∃ (P m g : Nat) (L : List (Nat × Nat)), vs = [.int (P : Nat), .loc m, .int (g : Nat)] ∧ s[m]? = some (.lst (L.map prM)) ∧ LOk P L ∧ g < P ∧ ∀ s' k (E : List (Nat × Nat)), Pre s s' → s.length ≤ k → s'[k]? = some (.dlf (E.map kvM)) → LkIs E (farK L g P) → Q (.loc k) s'
theorem law_far {Γ : Prg} : Law Γ d_law_far spFar := by
  rintro _ s Q R ⟨P, m, g, L, rfl, hm, lk, hg, q⟩
  refine ⟨rfl, ?_⟩
  have hP := lk.p2
  have hL := lk.l
  show wpSs Γ b_law_far [some (.int (P : Nat)), some (.loc m), some (.int (g : Nat)), none, none, none, none] s _
  unfold b_law_far
  rw [wpSs_cons]
  simp [wpS, wE_var, wE_non, wE_bl, wE_int, wE_str, wE_glo, wE_tup, wE_lst, wE_dnew, wE_ddisp, wE_bin, wE_neg, wE_cmp, wE_chn, wE_and, wE_or, wE_not, wE_ite, wE_fld, wE_ix, wE_sl, wE_call, wE_make, wE_meth, wE_sup, wE_bf, wE_bm, wE_isi, wE_fst, wpEs, dispW, leafOf, tgW]
  have x1 : (s ++ [MO.dlf [(.inl ((g : Nat) : Int), .int 0)]])[s.length]? = some (.dlf ([(g, 0)].map kvM)) := at_end
  have p1 : Pre s (s ++ [MO.dlf [(.inl ((g : Nat) : Int), .int 0)]]) := Pre.add _
  generalize s ++ [MO.dlf [(.inl ((g : Nat) : Int), .int 0)]] = s1 at x1 p1
  have lk0 : LkIs [(g, 0)] (farK L g 0) := fun p => by
    show (if Sum.inl ((g : Nat) : Int) = Sum.inl ((p : Nat) : Int) then some (MV.int ((0 : Nat) : Int)) else none) = _
    unfold farK
    by_cases hp : p = g
    · subst hp
      rw [if_pos rfl, if_pos rfl]
      rfl
    · rw [if_neg hp, if_neg]
      · rfl
      · intro z
        injection z with z
        omega
  rw [wpSs_cons]
  simp only [wpS, wpI, wE_var, wE_non, wE_bl, wE_int, wE_str, wE_glo, wE_tup, wE_lst, wE_dnew, wE_ddisp, wE_bin, wE_neg, wE_cmp, wE_chn, wE_and, wE_or, wE_not, wE_ite, wE_fld, wE_ix, wE_sl, wE_call, wE_make, wE_meth, wE_sup, wE_bf, wE_bm, wE_isi, wE_fst, wpEs, List.getElem?_cons_zero, List.getElem?_cons_succ]
  refine ⟨by omega, ?_⟩
  rw [rng_nats]
  refine forP (t := .free) (fun p : Nat => MV.int (p : Nat)) (fun k σ s' => ∃ (a b c : Option MV) (E : List (Nat × Nat)), σ = [some (.int (P : Nat)), some (.loc m), some (.int (g : Nat)), some (.loc s.length), a, b, c] ∧ Pre s s' ∧ s'[s.length]? = some (.dlf (E.map kvM)) ∧ LkIs E (farK L g k) ∧ FdOk P E) (List.range P)
    (fun _ _ _ _ _ => trivial) ?_ ?_ ⟨_, _, _, [(g, 0)], rfl, p1, x1, lk0, ⟨by simp, by simpa using hg⟩⟩
  · rintro kk x σ s3 hx ⟨a, b, c, E0, rfl, p3, d3, lk3, ok3⟩ k hk
    obtain ⟨hkl, hx2⟩ := List.getElem?_eq_some_iff.mp hx
    have hxe : x = kk := by rw [← hx2]; simp
    subst hxe
    simp only [tgW, List.set_cons_zero, List.set_cons_succ]
    rw [wpSs_cons]
    simp only [wpS, wpI, wE_var, wE_non, wE_bl, wE_int, wE_str, wE_glo, wE_tup, wE_lst, wE_dnew, wE_ddisp, wE_bin, wE_neg, wE_cmp, wE_chn, wE_and, wE_or, wE_not, wE_ite, wE_fld, wE_ix, wE_sl, wE_call, wE_make, wE_meth, wE_sup, wE_bf, wE_bm, wE_isi, wE_fst, List.getElem?_cons_zero, List.getElem?_cons_succ, seqIt, p3.at_ hm]
    refine forP (t := .obj m (L.map prM)) prM (fun j σ s' => ∃ (b c : Option MV) (E : List (Nat × Nat)), σ = [some (.int (P : Nat)), some (.loc m), some (.int (g : Nat)), some (.loc s.length), some (.int (x : Nat)), b, c] ∧ Pre s s' ∧ s'[s.length]? = some (.dlf (E.map kvM)) ∧ LkIs E (lawF L g x j) ∧ FdOk P E) L
      (fun _ _ _ _ h' => by obtain ⟨_, _, _, _, z, _⟩ := h'; exact z.at_ hm) ?_ ?_ ⟨_, _, E0, rfl, p3, d3, fun p => by rw [lawF_zero]; exact lk3 p, ok3⟩
    · rintro j qq σ s4 hq ⟨b, c, E, rfl, p4, d4, lk4, ok4⟩ k2 hk2
      obtain ⟨hq1, hq2, _⟩ := lk.lt qq (List.mem_of_getElem? hq)
      simp only [tgW, tgsW, prM, List.set_cons_zero, List.set_cons_succ]
      refine ⟨trivial, ?_⟩
      rw [wpSs_cons]
      have hget : (lkD (.inl ((qq.2 : Nat) : Int)) (E.map kvM)).getD (.int (-1)) = .int (match lawF L g x j qq.2 with
          | some d => (d : Int)
          | none => -1) := by
        rw [lk4]
        cases lawF L g x j qq.2 <;> rfl
      simp only [wpS, wE_var, wE_non, wE_bl, wE_int, wE_str, wE_glo, wE_tup, wE_lst, wE_dnew, wE_ddisp, wE_bin, wE_neg, wE_cmp, wE_chn, wE_and, wE_or, wE_not, wE_ite, wE_fld, wE_ix, wE_sl, wE_call, wE_make, wE_meth, wE_sup, wE_bf, wE_bm, wE_isi, wE_fst, wpEs, List.getElem?_cons_zero, List.getElem?_cons_succ, kindM, d4, bmK, bmW, leafOf, hget, cmpW, eqW_int]
      refine ⟨trivial, ?_⟩
      have hdec : decide ((match lawF L g x j qq.2 with
          | some d => (d : Int)
          | none => -1) = ((x : Nat) : Int)) = decide (farK L g x qq.2 = some x) := by
        rw [decide_eq_decide, ← lawF_k (j := j)]
        cases lawF L g x j qq.2 with
        | some d => simp <;> omega
        | none => simp <;> omega
      rw [hdec]
      by_cases h1 : farK L g x qq.2 = some x
      · simp only [h1, decide_true, inW, d4, leafOf, lk4 qq.1]
        cases h2 : lawF L g x j qq.1 with
        | some v =>
          simp only [Option.map_some, Option.isSome_some, Bool.not_true, wpSs_nil]
          refine hk2 _ _ ⟨_, _, E, rfl, p4, d4, fun p => ?_, ok4⟩
          rw [lawF_succ hq, if_neg (by rw [h2]; simp)]
          exact lk4 p
        | none =>
          have hno : lkD (.inl ((qq.1 : Nat) : Int)) (E.map kvM) = none := by rw [lk4, h2]; rfl
          have hEl := ok4.len
          simp only [Option.map_none, Option.isSome_none, Bool.not_false]
          rw [wpSs_cons]
          simp only [wpS, wE_var, wE_non, wE_bl, wE_int, wE_str, wE_glo, wE_tup, wE_lst, wE_dnew, wE_ddisp, wE_bin, wE_neg, wE_cmp, wE_chn, wE_and, wE_or, wE_not, wE_ite, wE_fld, wE_ix, wE_sl, wE_call, wE_make, wE_meth, wE_sup, wE_bf, wE_bm, wE_isi, wE_fst, List.getElem?_cons_zero, List.getElem?_cons_succ, binW, setW, d4, leafOf, wpSs_nil]
          refine ⟨by simp [sizeLine]; omega, ?_⟩
          rw [putD_new hno]
          have e1 : E.map kvM ++ [(.inl ((qq.1 : Nat) : Int), .int (((x : Nat) : Int) + 1))] = (E ++ [(qq.1, x + 1)]).map kvM := by simp [kvM]
          rw [e1]
          refine hk2 _ _ ⟨_, _, E ++ [(qq.1, x + 1)], rfl, p4.set (Nat.le_refl _) _, List.getElem?_set_self (lt_of_at d4), fun p => ?_, ok4.add (lk_none hno) hq1⟩
          rw [lk_snoc hno, lawF_succ hq]
          by_cases hp : qq.1 = p
          · rw [if_pos hp, if_pos ⟨h1, h2, hp⟩]
            rfl
          · rw [if_neg hp, if_neg (fun z => hp z.2.2)]
            exact lk4 p
      · simp only [h1, decide_false, wpSs_nil]
        refine hk2 _ _ ⟨_, _, E, rfl, p4, d4, fun p => ?_, ok4⟩
        rw [lawF_succ hq, if_neg (fun z => h1 z.1)]
        exact lk4 p
    · rintro σ s4 ⟨b, c, E, rfl, p4, d4, lk4, ok4⟩
      simp only [Still.out, wpSs_nil]
      exact hk _ _ ⟨_, _, _, E, rfl, p4, d4, fun p => by rw [← lawF_full]; exact lk4 p, ok4⟩
  · rintro σ s3 ⟨a, b, c, E, rfl, p3, d3, lk3, ok3⟩
    simp only [Still.out]
    rw [wpSs_cons]
    simp only [wpS, wE_var, wE_non, wE_bl, wE_int, wE_str, wE_glo, wE_tup, wE_lst, wE_dnew, wE_ddisp, wE_bin, wE_neg, wE_cmp, wE_chn, wE_and, wE_or, wE_not, wE_ite, wE_fld, wE_ix, wE_sl, wE_call, wE_make, wE_meth, wE_sup, wE_bf, wE_bm, wE_isi, wE_fst, List.getElem?_cons_zero, List.getElem?_cons_succ]
    rw [List.length_range] at lk3
    exact q s3 s.length E p3 (Nat.le_refl _) d3 lk3
def spLawNear : MSp := fun vs s Q _ => ∃ (P m p g : Nat) (L : List (Nat × Nat)), vs = [.int (P : Nat), .loc m, .int (p : Nat), .int (g : Nat)] ∧ s[m]? = some (.lst (L.map prM)) ∧ LOk P L ∧ p < P ∧ g < P ∧ ∀ s' k, NewL s s' k (natsM (nearW P L p g none)) → Q (.loc k) s'
theorem law_lawnear {Γ : Prg} (h116 : Γ 0 116 = some spFar) : Law Γ d_law_near_ways spLawNear := by
  rintro _ s Q R ⟨P, m, p, g, L, rfl, hm, lk, hp, hg, q⟩
  refine ⟨rfl, ?_⟩
  have hL := lk.l
  show wpSs Γ b_law_near_ways [some (.int (P : Nat)), some (.loc m), some (.int (p : Nat)), some (.int (g : Nat)), none, none] s _
  unfold b_law_near_ways
  rw [wpSs_cons]
  simp only [wpS, wE_var, wE_non, wE_bl, wE_int, wE_str, wE_glo, wE_tup, wE_lst, wE_dnew, wE_ddisp, wE_bin, wE_neg, wE_cmp, wE_chn, wE_and, wE_or, wE_not, wE_ite, wE_fld, wE_ix, wE_sl, wE_call, wE_make, wE_meth, wE_sup, wE_bf, wE_bm, wE_isi, wE_fst, wpEs, List.getElem?_cons_zero, List.getElem?_cons_succ, callW, h116, dflt_nil, List.append_nil]
  refine ⟨P, m, g, L, rfl, hm, lk, hg, fun s1 f E p1 hf d1 lk1 => ?_⟩
  simp only [tgW, List.set_cons_zero, List.set_cons_succ]
  rw [wpSs_cons]
  simp only [wpS, wE_var, wE_non, wE_bl, wE_int, wE_str, wE_glo, wE_tup, wE_lst, wE_dnew, wE_ddisp, wE_bin, wE_neg, wE_cmp, wE_chn, wE_and, wE_or, wE_not, wE_ite, wE_fld, wE_ix, wE_sl, wE_call, wE_make, wE_meth, wE_sup, wE_bf, wE_bm, wE_isi, wE_fst, List.getElem?_cons_zero, List.getElem?_cons_succ, cmpW, inW, d1, leafOf, lk1 p]
  cases hd : farK L g P p with
  | none =>
    simp only [Option.map_none, Option.isSome_none, Bool.not_false]
    rw [wpSs_cons]
    simp only [wpS, wE_var, wE_non, wE_bl, wE_int, wE_str, wE_glo, wE_tup, wE_lst, wE_dnew, wE_ddisp, wE_bin, wE_neg, wE_cmp, wE_chn, wE_and, wE_or, wE_not, wE_ite, wE_fld, wE_ix, wE_sl, wE_call, wE_make, wE_meth, wE_sup, wE_bf, wE_bm, wE_isi, wE_fst, wpEs]
    refine ⟨sz0, q _ _ ⟨p1.trans (Pre.add _), p1.len, ?_⟩⟩
    rw [at_end]
    unfold nearW
    rw [hd]
    rfl
  | some d =>
    have hpd : lkD (.inl ((p : Nat) : Int)) (E.map kvM) = some (.int (d : Nat)) := lk1.some hd
    simp only [Option.map_some, Option.isSome_some, Bool.not_true, wpSs_nil]
    rw [wpSs_cons]
    simp only [wpS]
    unfold wpE
    simp only [wpI, wE_var, wE_non, wE_bl, wE_int, wE_str, wE_glo, wE_tup, wE_lst, wE_dnew, wE_ddisp, wE_bin, wE_neg, wE_cmp, wE_chn, wE_and, wE_or, wE_not, wE_ite, wE_fld, wE_ix, wE_sl, wE_call, wE_make, wE_meth, wE_sup, wE_bf, wE_bm, wE_isi, wE_fst, wpEs, List.getElem?_cons_zero, List.getElem?_cons_succ, bfW, seqOf, p1.at_ hm]
    refine ⟨by rw [List.length_map]; omega, ?_⟩
    rw [List.length_map, rng_nats]
    refine lcP (t := .free) (fun l : Nat => MV.int (l : Nat)) (fun l => if (decide ((L[l]?.map (·.1)) = some p) && nearB L P g d l) = true then some (.int (l : Nat)) else none) (List.range L.length) (by simp; omega) (fun _ => trivial) ?_ ?_
    · intro l hl acc K ha hK
      obtain ⟨qq, hq⟩ : ∃ qq, L[l]? = some qq := ⟨_, List.getElem?_eq_getElem (List.mem_range.mp hl)⟩
      have pm : (s1 ++ [MO.lst acc])[m]? = some (.lst (L.map prM)) := (p1.trans (Pre.add _)).at_ hm
      have pd : (s1 ++ [MO.lst acc])[f]? = some (.dlf (E.map kvM)) := (Pre.add _).at_ d1
      have ate : (s1 ++ [MO.lst acc])[s1.length]? = some (.lst acc) := at_end
      have a1 : atI (L.map prM) ((l : Nat) : Int) = some (prM qq) := by rw [atN]; simp [hq]
      have a2 : atI [MV.int ((qq.1 : Nat) : Int), MV.int ((qq.2 : Nat) : Int)] 0 = some (.int (qq.1 : Nat)) := by rw [at0]; rfl
      have a3 : atI [MV.int ((qq.1 : Nat) : Int), MV.int ((qq.2 : Nat) : Int)] 1 = some (.int (qq.2 : Nat)) := by rw [at1]; rfl
      have hnb : nearB L P g d l = decide ((farK L g P qq.2).map (· + 1) = some d) := by unfold nearB; rw [hq]
      rw [hnb, hq] at hK
      simp only [wipeM, tgW, wpT, wE_var, wE_non, wE_bl, wE_int, wE_str, wE_glo, wE_tup, wE_lst, wE_dnew, wE_ddisp, wE_bin, wE_neg, wE_cmp, wE_chn, wE_and, wE_or, wE_not, wE_ite, wE_fld, wE_ix, wE_sl, wE_call, wE_make, wE_meth, wE_sup, wE_bf, wE_bm, wE_isi, wE_fst, wpEs, List.set_cons_zero, List.set_cons_succ, List.getElem?_cons_zero, List.getElem?_cons_succ, ixW, pm, atW, a1, prM, a2, cmpW, eqW_int]
      by_cases h1 : qq.1 = p
      · subst h1
        simp only [decide_true, kindM, pd, bmK, bmW, a3, leafOf, hpd, lkW, binW, eqW_int, ate]
        refine ⟨trivial, ?_⟩
        have hget : (lkD (.inl ((qq.2 : Nat) : Int)) (E.map kvM)).getD (.int (-9)) = .int (match farK L g P qq.2 with
            | some x => (x : Int)
            | none => -9) := by
          rw [lk1]
          cases farK L g P qq.2 <;> rfl
        rw [hget]
        simp only [eqW_int]
        have hdec : decide ((match farK L g P qq.2 with
            | some x => (x : Int)
            | none => -9) = ((d : Nat) : Int) - 1) = decide ((farK L g P qq.2).map (· + 1) = some d) := by
          rw [decide_eq_decide]
          cases farK L g P qq.2 with
          | some x => simp <;> omega
          | none => simp <;> omega
        rw [hdec]
        by_cases h2 : (farK L g P qq.2).map (· + 1) = some d
        · simp [h2] at hK ⊢
          exact ⟨ha, hK⟩
        · simp [h2] at hK ⊢
          exact hK
      · have h1' : ¬ ((qq.1 : Nat) : Int) = (p : Nat) := by omega
        simp [h1, h1'] at hK ⊢
        exact hK
    · rw [fm_filter]
      simp only [Still.out]
      refine q _ _ ⟨p1.trans (Pre.add _), p1.len, ?_⟩
      rw [at_end]
      unfold nearW
      rw [hd]
      simp only [outL]
      rw [List.filter_filter]
      congr 4
      funext l
      rw [Bool.and_comm]
/-! ### the ways by the rule -/
inductive KindR (s : MS) : MV → Nat → List (Nat × Nat) → WF → Prop
  | rows {w h m : Nat} : s[m]? = some (.lst ((rowL w h).map prM)) → 1 ≤ w → 1 ≤ h → w * h ≤ 12 → KindR s (.tup [.str "rows", .int (w : Nat), .loc m]) (w * h) (rowL w h) (rowW w h)
  | loop {P : Nat} : 2 ≤ P → P ≤ 12 → KindR s (.tup [.str "loop", .int (P : Nat)]) P (loopL P) (loopW P)
  | tree {ab : List Nat} {m : Nat} : s[m]? = some (.lst (natsM ab)) → AbOk ab → KindR s (.tup [.str "tree", .loc m]) (ab.length + 1) (treeL ab) (treeW ab)
  | near {P m : Nat} {L : List (Nat × Nat)} : s[m]? = some (.lst (L.map prM)) → LOk P L → KindR s (.tup [.str "near", .int (P : Nat), .loc m]) P L (nearW P L)
theorem KindR.mono {s s' : MS} {k : MV} {P : Nat} {L : List (Nat × Nat)} {wf : WF} (h : KindR s k P L wf) (p : Pre s s') : KindR s' k P L wf := by
  cases h with
  | rows h1 h2 h3 h4 => exact .rows (p.at_ h1) h2 h3 h4
  | loop h1 h2 => exact .loop h1 h2
  | tree h1 h2 => exact .tree (p.at_ h1) h2
  | near h1 h2 => exact .near (p.at_ h1) h2
theorem KindR.ok {s : MS} {k : MV} {P : Nat} {L : List (Nat × Nat)} {wf : WF} (h : KindR s k P L wf) : WOk P L wf := by
  cases h with
  | rows h1 h2 h3 h4 => exact wok_row h2 h3 h4
  | loop h1 h2 => exact wok_loop h1 h2
  | tree h1 h2 => exact wok_tree h2
  | near h1 h2 => exact wok_near h2
def spLawWays : MSp := fun vs s Q _ => ∃ (kd : MV) (p g P : Nat) (c : Option Nat) (L : List (Nat × Nat)) (wf : WF), vs = [kd, .int (p : Nat), .int (g : Nat), cameM c] ∧ KindR s kd P L wf ∧ p < P ∧ g < P ∧ ∀ s' k, NewL s s' k (natsM (wf p g c)) → Q (.loc k) s'
theorem law_lawways {Γ : Prg} (h113 : Γ 0 113 = some spLawRow) (h114 : Γ 0 114 = some spLawLoop) (h115 : Γ 0 115 = some spLawTree) (h117 : Γ 0 117 = some spLawNear) : Law Γ d_law_ways spLawWays := by
  rintro _ s Q R ⟨kd, p, g, P, c, L, wf, rfl, h, hp, hg, q⟩
  refine ⟨rfl, ?_⟩
  show wpSs Γ b_law_ways [some kd, some (.int (p : Nat)), some (.int (g : Nat)), some (cameM c)] s _
  unfold b_law_ways
  rw [wpSs_cons]
  simp only [wpS, wE_var, wE_non, wE_bl, wE_int, wE_str, wE_glo, wE_tup, wE_lst, wE_dnew, wE_ddisp, wE_bin, wE_neg, wE_cmp, wE_chn, wE_and, wE_or, wE_not, wE_ite, wE_fld, wE_ix, wE_sl, wE_call, wE_make, wE_meth, wE_sup, wE_bf, wE_bm, wE_isi, wE_fst, List.getElem?_cons_zero, List.getElem?_cons_succ, cmpW, eqW_int]
  by_cases hpg : p = g
  · have hpg' : ((p : Nat) : Int) = (g : Nat) := by omega
    simp only [hpg', decide_true]
    rw [wpSs_cons]
    simp only [wpS, wE_var, wE_non, wE_bl, wE_int, wE_str, wE_glo, wE_tup, wE_lst, wE_dnew, wE_ddisp, wE_bin, wE_neg, wE_cmp, wE_chn, wE_and, wE_or, wE_not, wE_ite, wE_fld, wE_ix, wE_sl, wE_call, wE_make, wE_meth, wE_sup, wE_bf, wE_bm, wE_isi, wE_fst, wpEs]
    refine ⟨sz0, q _ _ ⟨Pre.add _, Nat.le_refl _, ?_⟩⟩
    subst hpg
    rw [at_end, h.ok.e p c hp]
    rfl
  · have hpg' : ¬ ((p : Nat) : Int) = (g : Nat) := by omega
    simp only [hpg', decide_false, wpSs_nil]
    have d1 : decide (("loop" : Str) = "rows") = false := by decide +kernel
    have d2 : decide (("tree" : Str) = "rows") = false := by decide +kernel
    have d3 : decide (("near" : Str) = "rows") = false := by decide +kernel
    have d4 : decide (("tree" : Str) = "loop") = false := by decide +kernel
    have d5 : decide (("near" : Str) = "loop") = false := by decide +kernel
    have d6 : decide (("near" : Str) = "tree") = false := by decide +kernel
    rw [wpSs_cons]
    cases h with
    | @rows w hh m h1 h2 h3 h4 =>
      simp only [wpS, wE_var, wE_non, wE_bl, wE_int, wE_str, wE_glo, wE_tup, wE_lst, wE_dnew, wE_ddisp, wE_bin, wE_neg, wE_cmp, wE_chn, wE_and, wE_or, wE_not, wE_ite, wE_fld, wE_ix, wE_sl, wE_call, wE_make, wE_meth, wE_sup, wE_bf, wE_bm, wE_isi, wE_fst, wpEs, List.getElem?_cons_zero, List.getElem?_cons_succ, ixW, atW, at0, cmpW, eqW_str, decide_true]
      rw [wpSs_cons]
      simp only [wpS, wE_var, wE_non, wE_bl, wE_int, wE_str, wE_glo, wE_tup, wE_lst, wE_dnew, wE_ddisp, wE_bin, wE_neg, wE_cmp, wE_chn, wE_and, wE_or, wE_not, wE_ite, wE_fld, wE_ix, wE_sl, wE_call, wE_make, wE_meth, wE_sup, wE_bf, wE_bm, wE_isi, wE_fst, wpEs, List.getElem?_cons_zero, List.getElem?_cons_succ, ixW, atW, at1, at2, callW, h113, dflt_nil, List.append_nil]
      exact ⟨w, hh, m, p, g, rfl, h1, h2, h3, h4, hp, hg, hpg, q⟩
    | loop h1 h2 =>
      simp only [wpS, wE_var, wE_non, wE_bl, wE_int, wE_str, wE_glo, wE_tup, wE_lst, wE_dnew, wE_ddisp, wE_bin, wE_neg, wE_cmp, wE_chn, wE_and, wE_or, wE_not, wE_ite, wE_fld, wE_ix, wE_sl, wE_call, wE_make, wE_meth, wE_sup, wE_bf, wE_bm, wE_isi, wE_fst, wpEs, List.getElem?_cons_zero, List.getElem?_cons_succ, ixW, atW, at0, cmpW, eqW_str, d1, wpSs_nil]
      rw [wpSs_cons]
      simp only [wpS, wE_var, wE_non, wE_bl, wE_int, wE_str, wE_glo, wE_tup, wE_lst, wE_dnew, wE_ddisp, wE_bin, wE_neg, wE_cmp, wE_chn, wE_and, wE_or, wE_not, wE_ite, wE_fld, wE_ix, wE_sl, wE_call, wE_make, wE_meth, wE_sup, wE_bf, wE_bm, wE_isi, wE_fst, wpEs, List.getElem?_cons_zero, List.getElem?_cons_succ, ixW, atW, at0, cmpW, eqW_str, decide_true]
      rw [wpSs_cons]
      simp only [wpS, wE_var, wE_non, wE_bl, wE_int, wE_str, wE_glo, wE_tup, wE_lst, wE_dnew, wE_ddisp, wE_bin, wE_neg, wE_cmp, wE_chn, wE_and, wE_or, wE_not, wE_ite, wE_fld, wE_ix, wE_sl, wE_call, wE_make, wE_meth, wE_sup, wE_bf, wE_bm, wE_isi, wE_fst, wpEs, List.getElem?_cons_zero, List.getElem?_cons_succ, ixW, atW, at1, at2, callW, h114, dflt_nil, List.append_nil]
      exact ⟨_, p, g, c, rfl, h1, h2, hpg, q⟩
    | @tree ab m h1 h2 =>
      simp only [wpS, wE_var, wE_non, wE_bl, wE_int, wE_str, wE_glo, wE_tup, wE_lst, wE_dnew, wE_ddisp, wE_bin, wE_neg, wE_cmp, wE_chn, wE_and, wE_or, wE_not, wE_ite, wE_fld, wE_ix, wE_sl, wE_call, wE_make, wE_meth, wE_sup, wE_bf, wE_bm, wE_isi, wE_fst, wpEs, List.getElem?_cons_zero, List.getElem?_cons_succ, ixW, atW, at0, cmpW, eqW_str, d2, wpSs_nil]
      rw [wpSs_cons]
      simp only [wpS, wE_var, wE_non, wE_bl, wE_int, wE_str, wE_glo, wE_tup, wE_lst, wE_dnew, wE_ddisp, wE_bin, wE_neg, wE_cmp, wE_chn, wE_and, wE_or, wE_not, wE_ite, wE_fld, wE_ix, wE_sl, wE_call, wE_make, wE_meth, wE_sup, wE_bf, wE_bm, wE_isi, wE_fst, wpEs, List.getElem?_cons_zero, List.getElem?_cons_succ, ixW, atW, at0, cmpW, eqW_str, d4, wpSs_nil]
      rw [wpSs_cons]
      simp only [wpS, wE_var, wE_non, wE_bl, wE_int, wE_str, wE_glo, wE_tup, wE_lst, wE_dnew, wE_ddisp, wE_bin, wE_neg, wE_cmp, wE_chn, wE_and, wE_or, wE_not, wE_ite, wE_fld, wE_ix, wE_sl, wE_call, wE_make, wE_meth, wE_sup, wE_bf, wE_bm, wE_isi, wE_fst, wpEs, List.getElem?_cons_zero, List.getElem?_cons_succ, ixW, atW, at0, cmpW, eqW_str, decide_true]
      rw [wpSs_cons]
      simp only [wpS, wE_var, wE_non, wE_bl, wE_int, wE_str, wE_glo, wE_tup, wE_lst, wE_dnew, wE_ddisp, wE_bin, wE_neg, wE_cmp, wE_chn, wE_and, wE_or, wE_not, wE_ite, wE_fld, wE_ix, wE_sl, wE_call, wE_make, wE_meth, wE_sup, wE_bf, wE_bm, wE_isi, wE_fst, wpEs, List.getElem?_cons_zero, List.getElem?_cons_succ, ixW, atW, at1, at2, callW, h115, dflt_nil, List.append_nil]
      exact ⟨m, p, g, ab, rfl, h1, h2, hp, hg, hpg, q⟩
    | near h1 h2 =>
      simp only [wpS, wE_var, wE_non, wE_bl, wE_int, wE_str, wE_glo, wE_tup, wE_lst, wE_dnew, wE_ddisp, wE_bin, wE_neg, wE_cmp, wE_chn, wE_and, wE_or, wE_not, wE_ite, wE_fld, wE_ix, wE_sl, wE_call, wE_make, wE_meth, wE_sup, wE_bf, wE_bm, wE_isi, wE_fst, wpEs, List.getElem?_cons_zero, List.getElem?_cons_succ, ixW, atW, at0, cmpW, eqW_str, d3, wpSs_nil]
      rw [wpSs_cons]
      simp only [wpS, wE_var, wE_non, wE_bl, wE_int, wE_str, wE_glo, wE_tup, wE_lst, wE_dnew, wE_ddisp, wE_bin, wE_neg, wE_cmp, wE_chn, wE_and, wE_or, wE_not, wE_ite, wE_fld, wE_ix, wE_sl, wE_call, wE_make, wE_meth, wE_sup, wE_bf, wE_bm, wE_isi, wE_fst, wpEs, List.getElem?_cons_zero, List.getElem?_cons_succ, ixW, atW, at0, cmpW, eqW_str, d5, wpSs_nil]
      rw [wpSs_cons]
      simp only [wpS, wE_var, wE_non, wE_bl, wE_int, wE_str, wE_glo, wE_tup, wE_lst, wE_dnew, wE_ddisp, wE_bin, wE_neg, wE_cmp, wE_chn, wE_and, wE_or, wE_not, wE_ite, wE_fld, wE_ix, wE_sl, wE_call, wE_make, wE_meth, wE_sup, wE_bf, wE_bm, wE_isi, wE_fst, wpEs, List.getElem?_cons_zero, List.getElem?_cons_succ, ixW, atW, at0, cmpW, eqW_str, d6, wpSs_nil]
      rw [wpSs_cons]
      simp only [wpS, wE_var, wE_non, wE_bl, wE_int, wE_str, wE_glo, wE_tup, wE_lst, wE_dnew, wE_ddisp, wE_bin, wE_neg, wE_cmp, wE_chn, wE_and, wE_or, wE_not, wE_ite, wE_fld, wE_ix, wE_sl, wE_call, wE_make, wE_meth, wE_sup, wE_bf, wE_bm, wE_isi, wE_fst, wpEs, List.getElem?_cons_zero, List.getElem?_cons_succ, ixW, atW, at1, at2, callW, h117, dflt_nil, List.append_nil]
      exact ⟨P, _, p, g, L, rfl, h1, h2, hp, hg, q⟩
end Ly
namespace Ly
open PySem L2 TL
open PyProof.Rows hiding St
/-- [k for k in range(len(lanes)) if lanes[k][1] == place] -/
theorem into_lc {Γ : Prg} {s : MS} {m p a b j : Nat} {L : List (Nat × Nat)} {σ : MEnv} {Q : QV} {R : QX} (h : s[m]? = some (.lst (L.map prM))) (hL : L.length ≤ 40) (h2 : σ[a]? = some (some (.loc m))) (h4 : σ[b]? = some (some (.int (p : Nat)))) (hj : j < σ.length) (hja : j ≠ a) (hjb : j ≠ b)
    (q : Q (.loc s.length) (s ++ [.lst (natsM (intoL L p))])) : wpE Γ (.lc (.var j) (.nm j) (.rng (.cons (.bf .len (.cons (.var a) .nil)) .nil)) (.so (.cmp .eq (.ix (.ix (.var a) (.var j)) (.int 1)) (.var b))) [j]) σ s Q R := by
  unfold wpE
  simp only [wpI, wE_var, wE_non, wE_bl, wE_int, wE_str, wE_glo, wE_tup, wE_lst, wE_dnew, wE_ddisp, wE_bin, wE_neg, wE_cmp, wE_chn, wE_and, wE_or, wE_not, wE_ite, wE_fld, wE_ix, wE_sl, wE_call, wE_make, wE_meth, wE_sup, wE_bf, wE_bm, wE_isi, wE_fst, wpEs, h2, bfW, seqOf, h]
  refine ⟨by rw [List.length_map]; omega, ?_⟩
  rw [List.length_map, rng_nats]
  refine lcP (t := .free) (fun k : Nat => MV.int (k : Nat)) (fun k => if decide ((L[k]?.map (·.2)) = some p) = true then some (.int (k : Nat)) else none) (List.range L.length) (by simp; omega) (fun _ => trivial) ?_ ?_
  · intro k hk acc K ha hK
    obtain ⟨pp, hpp⟩ : ∃ pp, L[k]? = some pp := ⟨_, List.getElem?_eq_getElem (List.mem_range.mp hk)⟩
    have x1 : (s ++ [MO.lst acc])[m]? = some (.lst (L.map prM)) := (Pre.add _).at_ h
    have ate : (s ++ [MO.lst acc])[s.length]? = some (.lst acc) := at_end
    have g2 : ((wipeM σ [j]).set j (some (.int (k : Nat))))[a]? = some (some (.loc m)) := by
      show ((σ.set j none).set j _)[a]? = _
      rw [List.getElem?_set_ne hja, List.getElem?_set_ne hja, h2]
    have g4 : ((wipeM σ [j]).set j (some (.int (k : Nat))))[b]? = some (some (.int (p : Nat))) := by
      show ((σ.set j none).set j _)[b]? = _
      rw [List.getElem?_set_ne hjb, List.getElem?_set_ne hjb, h4]
    have g6 : ((wipeM σ [j]).set j (some (.int (k : Nat))))[j]? = some (some (.int (k : Nat))) := by
      rw [List.getElem?_set_self]
      show j < (σ.set j none).length
      simpa using hj
    have e1 : atI (L.map prM) ((k : Nat) : Int) = some (prM pp) := by rw [atN]; simp [hpp]
    have e2 : atI [MV.int ((pp.1 : Nat) : Int), MV.int ((pp.2 : Nat) : Int)] 1 = some (.int (pp.2 : Nat)) := by rw [at1]; rfl
    simp only [tgW, wpT, wE_var, wE_non, wE_bl, wE_int, wE_str, wE_glo, wE_tup, wE_lst, wE_dnew, wE_ddisp, wE_bin, wE_neg, wE_cmp, wE_chn, wE_and, wE_or, wE_not, wE_ite, wE_fld, wE_ix, wE_sl, wE_call, wE_make, wE_meth, wE_sup, wE_bf, wE_bm, wE_isi, wE_fst, g2, g4, g6, ixW, x1, atW, e1, prM, e2, cmpW, eqW_int, ate]
    rw [hpp] at hK
    by_cases hz : pp.2 = p
    · have hz' : ((pp.2 : Nat) : Int) = (p : Nat) := by omega
      simp [hz, hz'] at hK ⊢
      exact ⟨ha, hK⟩
    · have hz' : ¬ ((pp.2 : Nat) : Int) = (p : Nat) := by omega
      simp [hz, hz'] at hK ⊢
      exact hK
  · simp only [Still.out]
    rw [fm_filter]
    exact q
theorem len_append (a b : Str) : (a ++ b).length = a.length + b.length := by rw [len_tl, tl_append, List.length_append, ← len_tl, ← len_tl]
theorem first_eq (P : Nat) : ("places " : Str) ++ numS P = textT [(["places", numS P] : List Str)] := by
  apply ext_tl
  have h1 : tl ("places " : Str) = [112, 108, 97, 99, 101, 115, 32] := by decide +kernel
  have h2 : tl ("places" : Str) = [112, 108, 97, 99, 101, 115] := by decide +kernel
  unfold textT rowT
  rw [tl_append, h1, tl_Join, List.map_cons, List.map_nil, List.map_cons, List.map_nil, tl_Join, tl_blank, List.map_cons, List.map_cons, List.map_nil, h2]
  rfl
theorem lane_eq (T : Str) (a b : Nat) : (((T ++ "\nlane ") ++ numS a) ++ " ") ++ numS b = T ++ (("\n" : Str) ++ rowT (["lane", numS a, numS b] : List Str)) := by
  apply ext_tl
  have h1 : tl ("\nlane " : Str) = [10, 108, 97, 110, 101, 32] := by decide +kernel
  have h2 : tl ("lane" : Str) = [108, 97, 110, 101] := by decide +kernel
  unfold rowT
  simp only [tl_append, h1, tl_Join, tl_blank, tl_nl, List.map_cons, List.map_nil, h2, joinL, List.append_assoc, List.cons_append, List.nil_append]
theorem way_eq (T x : Str) (r : List Str) : (T ++ "\nway ") ++ Txt.join " " (x :: r) = T ++ (("\n" : Str) ++ rowT ("way" :: x :: r)) := by
  apply ext_tl
  have h1 : tl ("\nway " : Str) = [10, 119, 97, 121, 32] := by decide +kernel
  have h2 : tl ("way" : Str) = [119, 97, 121] := by decide +kernel
  unfold rowT
  simp only [tl_append, h1, tl_Join, tl_blank, tl_nl, List.map_cons, List.map_nil, h2, joinL, List.append_assoc, List.cons_append, List.nil_append]
theorem wayRows_self {P : Nat} {L : List (Nat × Nat)} {wf : WF} (ok : WOk P L wf) {p : Nat} (hp : p < P) : wayRows L wf p p = [] := by
  unfold wayRows
  rw [List.filterMap_eq_nil_iff]
  intro c _
  rw [if_pos (ok.e p c hp)]
theorem goalTo_next {P : Nat} {L : List (Nat × Nat)} {wf : WF} (ok : WOk P L wf) {p k : Nat} (hp : p < P) : goalTo P L wf p (k + 1) = goalTo P L wf p k ++ wayRows L wf p k := by
  rw [goalTo_succ]
  by_cases h : p = k
  · subst h
    rw [if_pos rfl, wayRows_self ok hp]
  · rw [if_neg h]
theorem goalTo_ok {P : Nat} {L : List (Nat × Nat)} {wf : WF} (tk : TOk P L wf) {p k : Nat} (hp : p < P) (hk : k ≤ P) : ∀ ws ∈ goalTo P L wf p k, RowOk ws := by
  intro ws hws
  unfold goalTo at hws
  obtain ⟨g, hg, hws⟩ := List.mem_flatMap.mp hws
  have hg := List.mem_range.mp hg
  split at hws
  · cases hws
  · exact wayRows_ok tk hp (by omega) ws hws
theorem placeTo_ok {P : Nat} {L : List (Nat × Nat)} {wf : WF} (tk : TOk P L wf) {k : Nat} (hk : k ≤ P) : ∀ ws ∈ placeTo P L wf k, RowOk ws := by
  intro ws hws
  unfold placeTo at hws
  obtain ⟨p, hp, hws⟩ := List.mem_flatMap.mp hws
  have hp := List.mem_range.mp hp
  exact goalTo_ok tk (by omega) (Nat.le_refl _) ws hws
theorem wayTo_ok {P : Nat} {L : List (Nat × Nat)} {wf : WF} (tk : TOk P L wf) {p g k : Nat} (hp : p < P) (hg : g < P) : ∀ ws ∈ wayTo L wf p g k, RowOk ws := by
  intro ws hws
  unfold wayTo at hws
  obtain ⟨c, hc, e⟩ := List.mem_filterMap.mp hws
  exact wayRows_ok tk hp hg ws (List.mem_filterMap.mpr ⟨c, List.mem_of_mem_take hc, e⟩)
theorem headT_ok {P : Nat} {L : List (Nat × Nat)} (lk : LOk P L) {k : Nat} : ∀ ws ∈ headT P L k, RowOk ws := by
  intro ws hws
  unfold headT laneT at hws
  rcases List.mem_cons.mp hws with rfl | hws
  · exact head_ok lk.p2
  · obtain ⟨q, hq, rfl⟩ := List.mem_map.mp hws
    exact lane_ok lk (List.mem_of_mem_take hq)
theorem headT_len {P : Nat} {L : List (Nat × Nat)} (lk : LOk P L) {k : Nat} : (headT P L k).length ≤ 41 := by
  unfold headT laneT
  have := lk.l
  simp
  omega
theorem lit_len' (x : String) : (Str.ofString x).length = x.length := by rw [len_tl, tl_ofString, List.length_map, String.length_toList]
def spLawText : MSp := fun vs s Q _ => ∃ (kd : MV) (P m : Nat) (L : List (Nat × Nat)) (wf : WF), vs = [kd, .int (P : Nat), .loc m] ∧ KindR s kd P L wf ∧ s[m]? = some (.lst (L.map prM)) ∧ ∀ s', Pre s s' → Q (.str (textT (tabT P L wf))) s'
theorem law_lawtext {Γ : Prg} (h118 : Γ 0 118 = some spLawWays) : Law Γ d_law_text spLawText := by
  rintro _ s Q R ⟨kd, P, m, L, wf, rfl, hk, hm, q⟩
  refine ⟨rfl, ?_⟩
  have ok := hk.ok
  have tk := ok.t
  have lk := ok.l
  have hP := lk.p2
  have hL := lk.l
  show wpSs Γ b_law_text [some kd, some (.int (P : Nat)), some (.loc m), none, none, none, none, none, none, none, none, none, none] s _
  unfold b_law_text
  rw [wpSs_cons]
  have hlP := numS_len2 (n := P) (by omega)
  simp only [wpS, wE_var, wE_non, wE_bl, wE_int, wE_str, wE_glo, wE_tup, wE_lst, wE_dnew, wE_ddisp, wE_bin, wE_neg, wE_cmp, wE_chn, wE_and, wE_or, wE_not, wE_ite, wE_fld, wE_ix, wE_sl, wE_call, wE_make, wE_meth, wE_sup, wE_bf, wE_bm, wE_isi, wE_fst, wpEs, List.getElem?_cons_zero, List.getElem?_cons_succ, tgW, List.set_cons_zero, List.set_cons_succ]
  refine str_word (word_lt (n := P) (by omega)).1 ?_
  simp only [binW]
  have q7 : ("places " : Str).length = 7 := lit_len' "places "
  refine ⟨by rw [q7]; show _ + (numS P).length ≤ _; simp [sizeLine]; omega, ?_⟩
  have e1 : ("places " : Str) ++ wtxt (.int (P : Nat)) = textT (headT P L 0) := first_eq P
  rw [e1]
  rw [wpSs_cons]
  simp only [wpS, wpI, wE_var, wE_non, wE_bl, wE_int, wE_str, wE_glo, wE_tup, wE_lst, wE_dnew, wE_ddisp, wE_bin, wE_neg, wE_cmp, wE_chn, wE_and, wE_or, wE_not, wE_ite, wE_fld, wE_ix, wE_sl, wE_call, wE_make, wE_meth, wE_sup, wE_bf, wE_bm, wE_isi, wE_fst, List.getElem?_cons_zero, List.getElem?_cons_succ, seqIt, hm]
  refine forP (t := .obj m (L.map prM)) prM (fun i σ s' => ∃ (a b : Option MV), σ = [some kd, some (.int (P : Nat)), some (.loc m), some (.str (textT (headT P L i))), a, b, none, none, none, none, none, none, none] ∧ s' = s) L (fun _ _ _ _ h' => by obtain ⟨_, _, _, rfl⟩ := h'; exact hm) ?_ ?_ ⟨_, _, rfl, rfl⟩
  · rintro i x σ s1 hx ⟨a, b, rfl, hs1⟩ k hk
    rw [hs1]
    clear hs1
    obtain ⟨hx1, hx2, _⟩ := lk.lt x (List.mem_of_getElem? hx)
    have hT := text_len (headT_ok lk (k := i)) (Nat.le_trans (headT_len lk) (by decide))
    have l1 := numS_len2 (n := x.1) (by omega)
    have l2 := numS_len2 (n := x.2) (by omega)
    simp only [tgW, tgsW, prM, List.set_cons_zero, List.set_cons_succ]
    refine ⟨trivial, ?_⟩
    rw [wpSs_cons]
    have lz : ∀ n : Nat, n ≤ 16700000 → n ≤ sizeLine := fun n h => by simp [sizeLine]; omega
    have q1 : ("\nlane " : Str).length = 6 := lit_len' "\nlane "
    simp only [wpS, wE_var, wE_non, wE_bl, wE_int, wE_str, wE_glo, wE_tup, wE_lst, wE_dnew, wE_ddisp, wE_bin, wE_neg, wE_cmp, wE_chn, wE_and, wE_or, wE_not, wE_ite, wE_fld, wE_ix, wE_sl, wE_call, wE_make, wE_meth, wE_sup, wE_bf, wE_bm, wE_isi, wE_fst, wpEs, List.getElem?_cons_zero, List.getElem?_cons_succ, binW, tgW, List.set_cons_zero, List.set_cons_succ]
    refine ⟨lz _ (by rw [q1]; omega), str_word (word_lt (n := x.1) (by omega)).1 ?_⟩
    simp only [binW]
    refine ⟨lz _ (by rw [len_append, q1]; show _ + (numS x.1).length ≤ _; omega), lz _ (by rw [len_append, len_append, q1, blank_len]; show _ + (numS x.1).length + _ ≤ _; omega), str_word (word_lt (n := x.2) (by omega)).1 ?_⟩
    simp only [binW]
    refine ⟨lz _ (by rw [len_append, len_append, len_append, q1, blank_len]; show _ + (numS x.1).length + _ + (numS x.2).length ≤ _; omega), ?_⟩
    have e2 : (((textT (headT P L i) ++ "\nlane ") ++ wtxt (.int (x.1 : Nat))) ++ " ") ++ wtxt (.int (x.2 : Nat)) = textT (headT P L (i + 1)) := by
      have : headT P L (i + 1) = headT P L i ++ [(["lane", numS x.1, numS x.2] : List Str)] := by
        unfold headT laneT
        rw [List.take_add_one, hx]
        simp
      rw [this, text_snoc (by unfold headT; simp)]
      exact lane_eq _ _ _
    rw [e2]
    simp only [wpSs_nil]
    exact hk _ _ ⟨_, _, rfl, rfl⟩
  · rintro σ s1 ⟨a, b, rfl, hs1⟩
    rw [hs1]
    clear hs1
    simp only [Still.out]
    rw [wpSs_cons]
    simp only [wpS, wpI, wE_var, wE_non, wE_bl, wE_int, wE_str, wE_glo, wE_tup, wE_lst, wE_dnew, wE_ddisp, wE_bin, wE_neg, wE_cmp, wE_chn, wE_and, wE_or, wE_not, wE_ite, wE_fld, wE_ix, wE_sl, wE_call, wE_make, wE_meth, wE_sup, wE_bf, wE_bm, wE_isi, wE_fst, wpEs, List.getElem?_cons_zero, List.getElem?_cons_succ]
    refine ⟨by omega, ?_⟩
    rw [rng_nats]
    obtain ⟨H0, hH0⟩ : ∃ H0, H0 = headT P L L.length := ⟨_, rfl⟩
    have H0ok : ∀ ws ∈ H0, RowOk ws := by rw [hH0]; exact headT_ok lk
    have H0len : H0.length ≤ 41 := by rw [hH0]; exact headT_len lk
    have H0ne : H0 ≠ [] := by rw [hH0]; unfold headT; simp
    rw [← hH0]
    refine forP (t := .free) (fun i : Nat => MV.int (i : Nat)) (fun i σ s' => ∃ (a b c d e f g h i' : Option MV), σ = [some kd, some (.int (P : Nat)), some (.loc m), some (.str (textT (H0 ++ placeTo P L wf i))), a, b, c, d, e, f, g, h, i'] ∧ Pre s s') (List.range P) (fun _ _ _ _ _ => trivial) ?_ ?_ ⟨_, _, _, _, _, _, _, _, _, by rw [show H0 ++ placeTo P L wf 0 = H0 from by simp [placeTo]], Pre.refl⟩
    · rintro i x σ s1 hx ⟨a, b, c, d, e, f, g, h, i', rfl, p1⟩ k hk1
      obtain ⟨hil, hx2⟩ := List.getElem?_eq_some_iff.mp hx
      have hiP : i < P := by simpa using hil
      have hxe : x = i := by rw [← hx2]; simp
      subst hxe
      simp only [tgW, List.set_cons_zero, List.set_cons_succ]
      rw [wpSs_cons]
      simp only [wpS, wpI, wE_var, wE_non, wE_bl, wE_int, wE_str, wE_glo, wE_tup, wE_lst, wE_dnew, wE_ddisp, wE_bin, wE_neg, wE_cmp, wE_chn, wE_and, wE_or, wE_not, wE_ite, wE_fld, wE_ix, wE_sl, wE_call, wE_make, wE_meth, wE_sup, wE_bf, wE_bm, wE_isi, wE_fst, wpEs, List.getElem?_cons_zero, List.getElem?_cons_succ]
      refine ⟨by omega, ?_⟩
      rw [rng_nats]
      refine forP (t := .free) (fun i : Nat => MV.int (i : Nat)) (fun j σ s' => ∃ (a b d e f g h i' : Option MV), σ = [some kd, some (.int (P : Nat)), some (.loc m), some (.str (textT (H0 ++ placeTo P L wf x ++ goalTo P L wf x j))), a, b, some (.int (x : Nat)), d, e, f, g, h, i'] ∧ Pre s s') (List.range P) (fun _ _ _ _ _ => trivial) ?_ ?_ ⟨_, _, _, _, _, _, _, _, by rw [show H0 ++ placeTo P L wf x ++ goalTo P L wf x 0 = H0 ++ placeTo P L wf x from by simp [goalTo]], p1⟩
      · rintro j y σ s2 hy ⟨a, b, d, e, f, g, h, i', rfl, p2⟩ k2 hk2
        obtain ⟨hjl, hy2⟩ := List.getElem?_eq_some_iff.mp hy
        have hjP : j < P := by simpa using hjl
        have hye : y = j := by rw [← hy2]; simp
        subst hye
        simp only [tgW, List.set_cons_zero, List.set_cons_succ]
        rw [wpSs_cons]
        simp only [wpS, wpI, wpE_bin]
        refine wpE_lstn ?_
        have p3 : Pre s2 (s2 ++ [MO.lst [.non]]) := Pre.add _
        have x3 : (s2 ++ [MO.lst [.non]])[s2.length]? = some (.lst [.non]) := at_end
        generalize s2 ++ [MO.lst [.non]] = s3 at p3 x3
        refine into_lc ((p2.trans p3).at_ hm) hL rfl rfl (by simp) (by decide) (by decide) ?_
        have p4 : Pre s3 (s3 ++ [MO.lst (natsM (intoL L x))]) := Pre.add _
        have x4 : (s3 ++ [MO.lst (natsM (intoL L x))])[s3.length]? = some (.lst (natsM (intoL L x))) := at_end
        have y4 := p4.at_ x3
        generalize s3 ++ [MO.lst (natsM (intoL L x))] = s4 at p4 x4 y4
        have ecm : [MV.non] ++ natsM (intoL L x) = (comes L x).map cameM := by
          unfold comes natsM
          rw [List.map_cons, List.map_map]
          rfl
        have hcl := comes_len (L := L) (p := x)
        have hcl2 : [MV.non].length + (natsM (intoL L x)).length ≤ 41 := by
          rw [← List.length_append, ecm, List.length_map]
          omega
        simp only [binW, x4, y4]
        refine ⟨by simp [sizeLine] at hcl2 ⊢; omega, ?_⟩
        rw [ecm]
        have p5 : Pre s (s4 ++ [MO.lst ((comes L x).map cameM)]) := (p2.trans p3).trans (p4.trans (Pre.add _))
        have x5 : (s4 ++ [MO.lst ((comes L x).map cameM)])[s4.length]? = some (.lst ((comes L x).map cameM)) := at_end
        generalize s4 ++ [MO.lst ((comes L x).map cameM)] = s5 at p5 x5
        generalize s4.length = t at x5
        clear x3 y4 x4 p3 p4
        simp only [seqIt, x5]
        obtain ⟨A, hA⟩ : ∃ A, A = H0 ++ placeTo P L wf x ++ goalTo P L wf x y := ⟨_, rfl⟩
        have Aok : ∀ ws ∈ A, RowOk ws := by
          intro ws hws
          rw [hA] at hws
          rcases List.mem_append.mp hws with hws | hws
          · rcases List.mem_append.mp hws with hws | hws
            · exact H0ok ws hws
            · exact placeTo_ok tk (by omega) ws hws
          · exact goalTo_ok tk hiP (by omega) ws hws
        have Alen : A.length ≤ 9000 := by
          rw [hA, List.length_append, List.length_append]
          have := placeTo_len (P := P) (L := L) (wf := wf) (k := x) hL hP
          have := goalTo_len (P := P) (L := L) (wf := wf) (p := x) (k := y) hL
          omega
        have Ane : A ≠ [] := by rw [hA]; simp [H0ne]
        rw [← hA]
        refine forP (t := .obj t ((comes L x).map cameM)) cameM (fun n σ s' => ∃ (a b e f g h i' : Option MV), σ = [some kd, some (.int (P : Nat)), some (.loc m), some (.str (textT (A ++ wayTo L wf x y n))), a, b, some (.int (x : Nat)), some (.int (y : Nat)), e, f, g, h, i'] ∧ Pre s s' ∧ s'[t]? = some (.lst ((comes L x).map cameM))) (comes L x)
          (fun _ _ _ _ h' => by obtain ⟨_, _, _, _, _, _, _, _, _, z⟩ := h'; exact z) ?_ ?_ ⟨_, _, _, _, _, _, _, by rw [show A ++ wayTo L wf x y 0 = A from by simp [wayTo]], p5, x5⟩
        · rintro n c σ s6 hc ⟨a, b, e, f, g, h, i', rfl, p6, x6⟩ k3 hk3
          have hcm := List.mem_of_getElem? hc
          have hnl := (List.getElem?_eq_some_iff.mp hc).1
          have Wok : ∀ ws ∈ A ++ wayTo L wf x y n, RowOk ws := fun ws hws => by
            rcases List.mem_append.mp hws with z | z
            · exact Aok ws z
            · exact wayTo_ok tk hiP hjP ws z
          have Wlen : (A ++ wayTo L wf x y n).length ≤ 10000 := by
            rw [List.length_append]
            have := wayTo_len (L := L) (wf := wf) (p := x) (g := y) (k := n)
            omega
          have hT := text_len Wok Wlen
          have Wne : A ++ wayTo L wf x y n ≠ [] := by simp [Ane]
          obtain ⟨T, hTd⟩ : ∃ T, T = textT (A ++ wayTo L wf x y n) := ⟨_, rfl⟩
          rw [← hTd] at hT ⊢
          simp only [tgW, List.set_cons_zero, List.set_cons_succ]
          rw [wpSs_cons]
          simp only [wpS, wE_var, wE_non, wE_bl, wE_int, wE_str, wE_glo, wE_tup, wE_lst, wE_dnew, wE_ddisp, wE_bin, wE_neg, wE_cmp, wE_chn, wE_and, wE_or, wE_not, wE_ite, wE_fld, wE_ix, wE_sl, wE_call, wE_make, wE_meth, wE_sup, wE_bf, wE_bm, wE_isi, wE_fst, wpEs, List.getElem?_cons_zero, List.getElem?_cons_succ, callW, h118, dflt_nil, List.append_nil]
          refine ⟨kd, x, y, P, c, L, wf, rfl, hk.mono p6, hiP, hjP, fun s7 w7 n7 => ?_⟩
          obtain ⟨p7, l7, x7⟩ := n7
          have p67 := p6.trans p7
          have y7 := p7.at_ x6
          simp only [tgW, List.set_cons_zero, List.set_cons_succ]
          rw [wpSs_cons]
          simp only [wpS, wE_var, wE_non, wE_bl, wE_int, wE_str, wE_glo, wE_tup, wE_lst, wE_dnew, wE_ddisp, wE_bin, wE_neg, wE_cmp, wE_chn, wE_and, wE_or, wE_not, wE_ite, wE_fld, wE_ix, wE_sl, wE_call, wE_make, wE_meth, wE_sup, wE_bf, wE_bm, wE_isi, wE_fst, wpEs, List.getElem?_cons_zero, List.getElem?_cons_succ, cmpW]
          refine ⟨sz0, ne_nil ((Pre.add _).at_ x7) at_end ?_⟩
          have p8 : Pre s (s7 ++ [MO.lst []]) := p67.trans (Pre.add _)
          have y8 := (Pre.add [MO.lst []]).at_ y7
          have x8 := (Pre.add [MO.lst []]).at_ x7
          generalize s7 ++ [MO.lst []] = s8 at p8 y8 x8
          by_cases hn : wf x y c = []
          · simp only [hn, decide_true, Bool.not_true, wpSs_nil]
            have eT : T = textT (A ++ wayTo L wf x y (n + 1)) := by rw [hTd, wayTo_succ hc, if_pos hn, List.append_nil]
            rw [eT]
            exact hk3 _ _ ⟨_, _, _, _, _, _, _, rfl, p8, y8⟩
          · simp only [hn, decide_false, Bool.not_false]
            rw [wpSs_cons]
            have hwl := tk.f x y c hiP hjP
            simp only [wpS, wpE_bin]
            simp only [wE_var, wE_non, wE_bl, wE_int, wE_str, wE_glo, wE_tup, wE_lst, wE_dnew, wE_ddisp, wE_bin, wE_neg, wE_cmp, wE_chn, wE_and, wE_or, wE_not, wE_ite, wE_fld, wE_ix, wE_sl, wE_call, wE_make, wE_meth, wE_sup, wE_bf, wE_bm, wE_isi, wE_fst, wpEs, List.getElem?_cons_zero, List.getElem?_cons_succ]
            refine str_word (word_lt (n := x) (by omega)).1 (str_word (word_lt (n := y) (by omega)).1 ?_)
            have hwc : WordV (cameM c) ∨ c = none := by
              cases c with
              | none => exact .inr rfl
              | some i =>
                have := into_mem (comes_mem hcm)
                exact .inl (word_lt (n := i) (by omega)).1
            have strc : ∀ (s : MS) (Q : QV), (∀ z, (c ≠ none → z = cS c) → Q (.str z) s) → bfW .str [cameM c] s Q := by
              intro s Q hq
              cases c with
              | none => exact hq _ (fun z => absurd rfl z)
              | some i =>
                rcases hwc with z | z
                · exact str_word z (hq _ fun _ => rfl)
                · cases z
            refine strc _ _ fun z hz => ?_
            have isn : ∀ (s : MS) (Q : Bool → Prop), Q (decide (c = none)) → cmpW .isn (cameM c) .non s Q := by
              intro s Q hq
              cases c with
              | none => simpa [cmpW, cameM] using hq
              | some i => simpa [cmpW, cameM] using hq
            refine ⟨sz2, isn _ _ ?_⟩
            simp only [bfW, ixW, at_end, atW]
            have ez : atI [MV.str z, MV.str "-"] (if decide (c = none) = true then 1 else 0) = some (.str (cS c)) := by
              cases c with
              | none =>
                simp only [decide_true, if_true]
                rw [at1]
                rfl
              | some i =>
                have : decide (some i = none) = false := rfl
                simp only [this]
                rw [if_neg (by decide), at0]
                simp [hz]
            rw [ez]
            simp only []
            refine ⟨sz3, ?_⟩
            have p9 : Pre s8 (s8 ++ [MO.lst [.str z, .str "-"]] ++ [MO.lst [.str (numS x), .str (numS y), .str (cS c)]]) := (Pre.add _).trans (Pre.add _)
            have x9 : (s8 ++ [MO.lst [.str z, .str "-"]] ++ [MO.lst [.str (numS x), .str (numS y), .str (cS c)]])[(s8 ++ [MO.lst [.str z, .str "-"]]).length]? = some (.lst [.str (numS x), .str (numS y), .str (cS c)]) := at_end
            show wpE Γ (.lc (.bf .str (.cons (.var 12) .nil)) (.nm 12) (.seq (.var 10)) .no [12]) _ (s8 ++ [MO.lst [.str z, .str "-"]] ++ [MO.lst [.str (numS x), .str (numS y), .str (cS c)]]) (fun y s2 => binW .add (.loc (s8 ++ [MO.lst [.str z, .str "-"]]).length) y s2 _) _
            generalize s8 ++ [MO.lst [.str z, .str "-"]] ++ [MO.lst [.str (numS x), .str (numS y), .str (cS c)]] = s9 at p9 x9
            generalize (s8 ++ [MO.lst [.str z, .str "-"]]).length = w9 at x9
            unfold wpE
            simp only [wpI, wE_var, wE_non, wE_bl, wE_int, wE_str, wE_glo, wE_tup, wE_lst, wE_dnew, wE_ddisp, wE_bin, wE_neg, wE_cmp, wE_chn, wE_and, wE_or, wE_not, wE_ite, wE_fld, wE_ix, wE_sl, wE_call, wE_make, wE_meth, wE_sup, wE_bf, wE_bm, wE_isi, wE_fst, List.getElem?_cons_zero, List.getElem?_cons_succ, seqIt, p9.at_ x8]
            refine lcP (t := .obj w7 (natsM (wf x y c))) (fun i : Nat => MV.int (i : Nat)) (fun i => some (.str (numS i))) (wf x y c) (by omega) (fun acc => (Pre.add _).at_ (p9.at_ x8)) ?_ ?_
            · intro w hwm acc K ha hK
              have hwlt := tk.w x y c hiP hjP w hwm
              simp only [wipeM, tgW, wpT, wE_var, wE_non, wE_bl, wE_int, wE_str, wE_glo, wE_tup, wE_lst, wE_dnew, wE_ddisp, wE_bin, wE_neg, wE_cmp, wE_chn, wE_and, wE_or, wE_not, wE_ite, wE_fld, wE_ix, wE_sl, wE_call, wE_make, wE_meth, wE_sup, wE_bf, wE_bm, wE_isi, wE_fst, wpEs, List.set_cons_zero, List.set_cons_succ, List.getElem?_cons_zero, List.getElem?_cons_succ, if_true]
              refine str_word (word_lt (n := w) (by omega)).1 ?_
              rw [at_end]
              refine ⟨ha, ?_⟩
              rw [List.set_append_right _ _ (Nat.le_refl _)]
              simpa [wtxt, numS] using hK
            · rw [List.filterMap_eq_map']
              simp only [Still.out]
              have x10 : (s9 ++ [MO.lst ((wf x y c).map fun i => MV.str (numS i))])[s9.length]? = some (.lst ((wf x y c).map fun i => MV.str (numS i))) := at_end
              have x9' := (Pre.add [MO.lst ((wf x y c).map fun i => MV.str (numS i))]).at_ x9
              have p10 : Pre s (s9 ++ [MO.lst ((wf x y c).map fun i => MV.str (numS i))]) := p8.trans (p9.trans (Pre.add _))
              have y10 := (p9.trans (Pre.add [MO.lst ((wf x y c).map fun i => MV.str (numS i))])).at_ y8
              generalize s9 ++ [MO.lst ((wf x y c).map fun i => MV.str (numS i))] = s10 at x10 x9' p10 y10
              simp only [binW, x10, x9', tgW, List.set_cons_zero, List.set_cons_succ]
              refine ⟨by simp [sizeLine]; omega, ?_⟩
              rw [wpSs_cons]
              have hwords : [MV.str (numS x), .str (numS y), .str (cS c)] ++ (wf x y c).map (fun i => MV.str (numS i)) = (numS x :: numS y :: cS c :: (wf x y c).map numS).map MV.str := by simp
              rw [hwords]
              have p11 : Pre s (s10 ++ [MO.lst ((numS x :: numS y :: cS c :: (wf x y c).map numS).map MV.str)]) := p10.trans (Pre.add _)
              have y11 := (Pre.add [MO.lst ((numS x :: numS y :: cS c :: (wf x y c).map numS).map MV.str)]).at_ y10
              have x11 : (s10 ++ [MO.lst ((numS x :: numS y :: cS c :: (wf x y c).map numS).map MV.str)])[s10.length]? = some (.lst ((numS x :: numS y :: cS c :: (wf x y c).map numS).map MV.str)) := at_end
              generalize s10 ++ [MO.lst ((numS x :: numS y :: cS c :: (wf x y c).map numS).map MV.str)] = s11 at p11 y11 x11
              have q5 : ("\nway " : Str).length = 5 := lit_len' "\nway "
              have hgw := way_good tk hiP hjP hcm
              have hsl := sum_le (ys := numS x :: numS y :: cS c :: (wf x y c).map numS) (k := 10) fun w hw => (hgw w (by unfold wayT; exact List.mem_cons_of_mem _ hw)).1
              have hjl2 := join_len " " (numS x :: numS y :: cS c :: (wf x y c).map numS)
              have hln : (numS x :: numS y :: cS c :: (wf x y c).map numS).length ≤ 43 := by simp; omega
              rw [blank_len] at hjl2
              have hnx : textT (A ++ wayTo L wf x y (n + 1)) = (T ++ "\nway ") ++ Txt.join " " (numS x :: numS y :: cS c :: (wf x y c).map numS) := by
                rw [wayTo_succ hc, if_neg hn, ← List.append_assoc, text_snoc Wne, ← hTd, way_eq]
                rfl
              rw [hnx] at hk3
              simp only [wpS, wE_var, wE_non, wE_bl, wE_int, wE_str, wE_glo, wE_tup, wE_lst, wE_dnew, wE_ddisp, wE_bin, wE_neg, wE_cmp, wE_chn, wE_and, wE_or, wE_not, wE_ite, wE_fld, wE_ix, wE_sl, wE_call, wE_make, wE_meth, wE_sup, wE_bf, wE_bm, wE_isi, wE_fst, wpEs, List.getElem?_cons_zero, List.getElem?_cons_succ, binW, kindM, bmK, bmW, x11, strsOf_map, tgW, List.set_cons_zero, List.set_cons_succ, wpSs_nil]
              refine ⟨by rw [q5]; simp [sizeLine]; omega, trivial, by rw [blank_len]; omega, ?_, ?_⟩
              · rw [len_append, q5]
                simp only [sizeLine]
                omega
              · exact hk3 _ _ ⟨_, _, _, _, _, _, _, rfl, p11, y11⟩
        · rintro σ s6 ⟨a, b, e, f, g, h, i', rfl, p6, x6⟩
          simp only [Still.out, wpSs_nil]
          have hwt : wayTo L wf x y (comes L x).length = wayRows L wf x y := by
            unfold wayTo wayRows
            rw [List.take_length]
          have eT : A ++ wayTo L wf x y (comes L x).length = H0 ++ placeTo P L wf x ++ goalTo P L wf x (y + 1) := by
            rw [hwt, hA, goalTo_next ok hiP]
            simp [List.append_assoc]
          rw [eT]
          exact hk2 _ _ ⟨_, _, _, _, _, _, _, _, rfl, p6⟩
      · rintro σ s2 ⟨a, b, d, e, f, g, h, i', rfl, p2⟩
        simp only [Still.out, wpSs_nil]
        have eT : H0 ++ placeTo P L wf x ++ goalTo P L wf x (List.range P).length = H0 ++ placeTo P L wf (x + 1) := by rw [List.length_range, placeTo_succ, List.append_assoc]
        rw [eT]
        exact hk1 _ _ ⟨_, _, _, _, _, _, _, _, _, rfl, p2⟩
    · rintro σ s1 ⟨a, b, c, d, e, f, g, h, i', rfl, p1⟩
      simp only [Still.out]
      rw [wpSs_cons]
      simp only [wpS, wE_var, wE_non, wE_bl, wE_int, wE_str, wE_glo, wE_tup, wE_lst, wE_dnew, wE_ddisp, wE_bin, wE_neg, wE_cmp, wE_chn, wE_and, wE_or, wE_not, wE_ite, wE_fld, wE_ix, wE_sl, wE_call, wE_make, wE_meth, wE_sup, wE_bf, wE_bm, wE_isi, wE_fst, List.getElem?_cons_zero, List.getElem?_cons_succ]
      rw [List.length_range, hH0, ← tabT_eq]
      exact q s1 p1
end Ly
namespace Ly
open PySem L2 TL
open PyProof.Rows hiding St
theorem eqv_prs : ∀ L : List (Nat × Nat), PyData.eqvAll (L.map fun p => PyData.tuple [.int (p.1 : Nat), .int (p.2 : Nat)]) (L.map fun p => PyData.tuple [.int (p.1 : Nat), .int (p.2 : Nat)]) = true
  | [] => rfl
  | x :: r => by
    simp only [List.map_cons, PyData.eqvAll, eqv_prs r]
    rw [eqv_pr]
    simp
theorem eq_prs {s : MS} {m k : Nat} {L : List (Nat × Nat)} {Q : Bool → Prop} (h : s[m]? = some (.lst (L.map prM))) (hk : s[k]? = some (.lst (L.map prM))) (q : Q true) : eqW (.loc m) (.loc k) s Q := by
  refine ⟨_, _, .lst h (dats_pr s L), .lst hk (dats_pr s L), shaped_pr L, shaped_pr L, ?_⟩
  have : PyData.eqv (.list (L.map fun p => PyData.tuple [.int (p.1 : Nat), .int (p.2 : Nat)])) (.list (L.map fun p => PyData.tuple [.int (p.1 : Nat), .int (p.2 : Nat)])) = true := by
    simp only [PyData.eqv]
    exact eqv_prs L
  rw [this]
  exact q
theorem wfR_all {P : Nat} {L : List (Nat × Nat)} {wf : WF} (ok : WOk P L wf) {p g : Nat} {c : Option Nat} (hp : p < P) (hg : g < P) (hc : c ∈ comes L p) : wfR P L wf p g c = wf p g c := by
  by_cases h : p = g
  · subst h
    rw [ok.e p c hp]
    unfold wfR
    rw [if_neg (fun z => (keysK_mem.mp z).2.2.1 rfl)]
  · exact wfR_at hp hg h hc
def spRight : MSp := fun vs s Q _ => ∃ (kd : MV) (n P m : Nat) (L : List (Nat × Nat)) (wf : WF), vs = [.loc n, kd, .int (P : Nat), .loc m] ∧ TabR s n P L wf ∧ KindR s kd P L wf ∧ s[m]? = some (.lst (L.map prM)) ∧ ∀ s', Pre s s' → Q (.bl true) s'
theorem law_right {Γ : Prg} (hw : HasWays Γ) (h105 : Γ 0 105 = some spTableText) (h119 : Γ 0 119 = some spLawText) (h111 : Γ 0 111 = some spRead) (h118 : Γ 0 118 = some spLawWays) : Law Γ d_law_right spRight := by
  rintro _ s Q R ⟨kd, n, P, m, L, wf, rfl, ht, hk, hm, q⟩
  refine ⟨rfl, ?_⟩
  have ok := hk.ok
  have tk := ok.t
  have lk := ok.l
  have hP := lk.p2
  have hL := lk.l
  obtain ⟨c0, fs0, ln, t1, t2, t3⟩ := ht.land
  have t3' : s[ln]? = some (.ins 17 (landFs P L)) := t3
  have g18 : lkM 18 (landFs P L) = some (.int (P : Nat)) := rfl
  have g19 : lkM 19 (landFs P L) = some (.tup (L.map prM)) := rfl
  show wpSs Γ b_law_right [some (.loc n), some kd, some (.int (P : Nat)), some (.loc m), none, none, none, none, none, none, none] s _
  unfold b_law_right
  rw [wpSs_cons]
  simp only [wpS, wE_var, wE_non, wE_bl, wE_int, wE_str, wE_glo, wE_tup, wE_lst, wE_dnew, wE_ddisp, wE_bin, wE_neg, wE_cmp, wE_chn, wE_and, wE_or, wE_not, wE_ite, wE_fld, wE_ix, wE_sl, wE_call, wE_make, wE_meth, wE_sup, wE_bf, wE_bm, wE_isi, wE_fst, wpEs, List.getElem?_cons_zero, List.getElem?_cons_succ, fldW, t1, t2, t3', g18, g19, cmpW, eqW_int, decide_true, Bool.not_true, bfW, seqOf]
  have p1 : Pre s (s ++ [MO.lst (L.map prM)]) := Pre.add _
  refine eq_prs at_end (p1.at_ hm) ?_
  generalize s ++ [MO.lst (L.map prM)] = s1 at p1
  simp only [Bool.not_true, wpSs_nil]
  rw [wpSs_cons]
  simp only [wpS, wE_var, wE_non, wE_bl, wE_int, wE_str, wE_glo, wE_tup, wE_lst, wE_dnew, wE_ddisp, wE_bin, wE_neg, wE_cmp, wE_chn, wE_and, wE_or, wE_not, wE_ite, wE_fld, wE_ix, wE_sl, wE_call, wE_make, wE_meth, wE_sup, wE_bf, wE_bm, wE_isi, wE_fst, wpEs, List.getElem?_cons_zero, List.getElem?_cons_succ, callW, h105, dflt_nil, List.append_nil]
  refine ⟨n, P, L, wf, rfl, ht.mono p1, tk, fun s2 p2 => ?_⟩
  have p02 := p1.trans p2
  simp only [tgW, List.set_cons_zero, List.set_cons_succ]
  rw [wpSs_cons]
  simp only [wpS, wE_var, wE_non, wE_bl, wE_int, wE_str, wE_glo, wE_tup, wE_lst, wE_dnew, wE_ddisp, wE_bin, wE_neg, wE_cmp, wE_chn, wE_and, wE_or, wE_not, wE_ite, wE_fld, wE_ix, wE_sl, wE_call, wE_make, wE_meth, wE_sup, wE_bf, wE_bm, wE_isi, wE_fst, wpEs, List.getElem?_cons_zero, List.getElem?_cons_succ, callW, h119, dflt_nil, List.append_nil]
  refine ⟨kd, P, m, L, wf, rfl, hk.mono p02, p02.at_ hm, fun s3 p3 => ?_⟩
  have p03 := p02.trans p3
  simp only [cmpW, eqW_str, decide_true, Bool.not_true, wpSs_nil]
  rw [wpSs_cons]
  simp only [wpS, wE_var, wE_non, wE_bl, wE_int, wE_str, wE_glo, wE_tup, wE_lst, wE_dnew, wE_ddisp, wE_bin, wE_neg, wE_cmp, wE_chn, wE_and, wE_or, wE_not, wE_ite, wE_fld, wE_ix, wE_sl, wE_call, wE_make, wE_meth, wE_sup, wE_bf, wE_bm, wE_isi, wE_fst, wpEs, List.getElem?_cons_zero, List.getElem?_cons_succ, callW, h111, dflt_nil, List.append_nil]
  refine ⟨P, L, wf, rfl, ok, fun s4 b p4 hb tb => ?_⟩
  have p04 := p03.trans p4
  have tb' : TabR s4 b P L (wfR P L wf) := .told tb
  simp only [tgW, List.set_cons_zero, List.set_cons_succ]
  rw [wpSs_cons]
  simp only [wpS, wpI, wE_var, wE_non, wE_bl, wE_int, wE_str, wE_glo, wE_tup, wE_lst, wE_dnew, wE_ddisp, wE_bin, wE_neg, wE_cmp, wE_chn, wE_and, wE_or, wE_not, wE_ite, wE_fld, wE_ix, wE_sl, wE_call, wE_make, wE_meth, wE_sup, wE_bf, wE_bm, wE_isi, wE_fst, wpEs, List.getElem?_cons_zero, List.getElem?_cons_succ]
  refine ⟨by omega, ?_⟩
  rw [rng_nats]
  generalize textT (tabT P L wf) = T
  refine forP (t := .free) (fun i : Nat => MV.int (i : Nat)) (fun i σ s' => ∃ (a c d e f : Option MV), σ = [some (.loc n), some kd, some (.int (P : Nat)), some (.loc m), some (.str T), some (.loc b), a, c, d, e, f] ∧ Pre s4 s') (List.range P) (fun _ _ _ _ _ => trivial) ?_ ?_ ⟨_, _, _, _, _, rfl, Pre.refl⟩
  · rintro i x σ s5 hx ⟨a, c, d, e, f, rfl, p5⟩ k hk1
    obtain ⟨hil, hx2⟩ := List.getElem?_eq_some_iff.mp hx
    have hiP : i < P := by simpa using hil
    have hxe : x = i := by rw [← hx2]; simp
    subst hxe
    simp only [tgW, List.set_cons_zero, List.set_cons_succ]
    rw [wpSs_cons]
    simp only [wpS, wpI, wE_var, wE_non, wE_bl, wE_int, wE_str, wE_glo, wE_tup, wE_lst, wE_dnew, wE_ddisp, wE_bin, wE_neg, wE_cmp, wE_chn, wE_and, wE_or, wE_not, wE_ite, wE_fld, wE_ix, wE_sl, wE_call, wE_make, wE_meth, wE_sup, wE_bf, wE_bm, wE_isi, wE_fst, wpEs, List.getElem?_cons_zero, List.getElem?_cons_succ]
    refine ⟨by omega, ?_⟩
    rw [rng_nats]
    refine forP (t := .free) (fun i : Nat => MV.int (i : Nat)) (fun i σ s' => ∃ (c d e f : Option MV), σ = [some (.loc n), some kd, some (.int (P : Nat)), some (.loc m), some (.str T), some (.loc b), some (.int (x : Nat)), c, d, e, f] ∧ Pre s4 s') (List.range P) (fun _ _ _ _ _ => trivial) ?_ ?_ ⟨_, _, _, _, rfl, p5⟩
    · rintro j y σ s6 hy ⟨c, d, e, f, rfl, p6⟩ k2 hk2
      obtain ⟨hjl, hy2⟩ := List.getElem?_eq_some_iff.mp hy
      have hjP : j < P := by simpa using hjl
      have hye : y = j := by rw [← hy2]; simp
      subst hye
      have p06 := p04.trans p6
      simp only [tgW, List.set_cons_zero, List.set_cons_succ]
      rw [wpSs_cons]
      simp only [wpS, wpI, wpE_bin]
      refine wpE_lstn ?_
      have p7 : Pre s6 (s6 ++ [MO.lst [.non]]) := Pre.add _
      have x7 : (s6 ++ [MO.lst [.non]])[s6.length]? = some (.lst [.non]) := at_end
      generalize s6 ++ [MO.lst [.non]] = s7 at p7 x7
      refine into_lc ((p06.trans p7).at_ hm) hL rfl rfl (by simp) (by decide) (by decide) ?_
      have p8 : Pre s7 (s7 ++ [MO.lst (natsM (intoL L x))]) := Pre.add _
      have x8 : (s7 ++ [MO.lst (natsM (intoL L x))])[s7.length]? = some (.lst (natsM (intoL L x))) := at_end
      have y8 := p8.at_ x7
      generalize s7 ++ [MO.lst (natsM (intoL L x))] = s8 at p8 x8 y8
      have ecm : [MV.non] ++ natsM (intoL L x) = (comes L x).map cameM := by
        unfold comes natsM
        rw [List.map_cons, List.map_map]
        rfl
      have hcl := comes_len (L := L) (p := x)
      have hcl2 : [MV.non].length + (natsM (intoL L x)).length ≤ 41 := by
        rw [← List.length_append, ecm, List.length_map]
        omega
      simp only [binW, x8, y8]
      refine ⟨by simp [sizeLine] at hcl2 ⊢; omega, ?_⟩
      rw [ecm]
      have p9 : Pre s4 (s8 ++ [MO.lst ((comes L x).map cameM)]) := (p6.trans p7).trans (p8.trans (Pre.add _))
      have x9 : (s8 ++ [MO.lst ((comes L x).map cameM)])[s8.length]? = some (.lst ((comes L x).map cameM)) := at_end
      generalize s8 ++ [MO.lst ((comes L x).map cameM)] = s9 at p9 x9
      generalize s8.length = t at x9
      clear x7 y8 x8 p7 p8
      simp only [seqIt, x9]
      refine forP (t := .obj t ((comes L x).map cameM)) cameM (fun n' σ s' => ∃ (d e f : Option MV), σ = [some (.loc n), some kd, some (.int (P : Nat)), some (.loc m), some (.str T), some (.loc b), some (.int (x : Nat)), some (.int (y : Nat)), d, e, f] ∧ Pre s4 s' ∧ s'[t]? = some (.lst ((comes L x).map cameM))) (comes L x)
        (fun _ _ _ _ h' => by obtain ⟨_, _, _, _, _, z⟩ := h'; exact z) ?_ ?_ ⟨_, _, _, rfl, p9, x9⟩
      · rintro n' c σ s10 hc ⟨d, e, f, rfl, p10, x10⟩ k3 hk3
        have hcm := List.mem_of_getElem? hc
        have p010 := p04.trans p10
        simp only [tgW, List.set_cons_zero, List.set_cons_succ]
        rw [wpSs_cons]
        simp only [wpS, wE_var, wE_non, wE_bl, wE_int, wE_str, wE_glo, wE_tup, wE_lst, wE_dnew, wE_ddisp, wE_bin, wE_neg, wE_cmp, wE_chn, wE_and, wE_or, wE_not, wE_ite, wE_fld, wE_ix, wE_sl, wE_call, wE_make, wE_meth, wE_sup, wE_bf, wE_bm, wE_isi, wE_fst, wpEs, List.getElem?_cons_zero, List.getElem?_cons_succ, callW, h118, dflt_nil, List.append_nil]
        refine ⟨kd, x, y, P, c, L, wf, rfl, hk.mono p010, hiP, hjP, fun s11 w11 n11 => ?_⟩
        obtain ⟨p11, l11, x11⟩ := n11
        simp only [tgW, List.set_cons_zero, List.set_cons_succ]
        rw [wpSs_cons]
        simp only [wpS, wE_var, wE_non, wE_bl, wE_int, wE_str, wE_glo, wE_tup, wE_lst, wE_dnew, wE_ddisp, wE_bin, wE_neg, wE_cmp, wE_chn, wE_and, wE_or, wE_not, wE_ite, wE_fld, wE_ix, wE_sl, wE_call, wE_make, wE_meth, wE_sup, wE_bf, wE_bm, wE_isi, wE_fst, wpEs, List.getElem?_cons_zero, List.getElem?_cons_succ]
        refine ways_call hw (ht.mono (p010.trans p11)) hiP hjP c fun s12 w12 n12 => ?_
        obtain ⟨p12, l12, x12⟩ := n12
        simp only [cmpW]
        refine eq_nats x12 (p12.at_ x11) ?_
        simp only [decide_true, Bool.not_true]
        refine ways_call hw (tb'.mono (p10.trans (p11.trans p12))) hiP hjP c fun s13 w13 n13 => ?_
        obtain ⟨p13, l13, x13⟩ := n13
        rw [wfR_all ok hiP hjP hcm] at x13
        refine eq_nats x13 ((p12.trans p13).at_ x11) ?_
        simp only [decide_true, Bool.not_true, wpSs_nil]
        have pp := p11.trans (p12.trans p13)
        exact hk3 _ _ ⟨_, _, _, rfl, p10.trans pp, pp.at_ x10⟩
      · rintro σ s10 ⟨d, e, f, rfl, p10, x10⟩
        simp only [Still.out, wpSs_nil]
        exact hk2 _ _ ⟨_, _, _, _, rfl, p10⟩
    · rintro σ s6 ⟨c, d, e, f, rfl, p6⟩
      simp only [Still.out, wpSs_nil]
      exact hk1 _ _ ⟨_, _, _, _, _, rfl, p6⟩
  · rintro σ s5 ⟨a, c, d, e, f, rfl, p5⟩
    simp only [Still.out]
    rw [wpSs_cons]
    simp only [wpS, wE_var, wE_non, wE_bl, wE_int, wE_str, wE_glo, wE_tup, wE_lst, wE_dnew, wE_ddisp, wE_bin, wE_neg, wE_cmp, wE_chn, wE_and, wE_or, wE_not, wE_ite, wE_fld, wE_ix, wE_sl, wE_call, wE_make, wE_meth, wE_sup, wE_bf, wE_bm, wE_isi, wE_fst]
    exact q s5 (p04.trans p5)
def spSome : MSp := fun vs s Q _ => ∃ (st : Nat), vs = [.loc st] ∧ StV s st ∧ ∀ s', Upd st s s' → StV s' st → Q (.bl true) s'
theorem law_rowsright {Γ : Prg} (h82 : Γ 0 82 = some spDigit) (h112 : Γ 0 112 = some spJoined) (h36 : Γ 36 0 = some spRowInit) (h120 : Γ 0 120 = some spRight) : Law Γ d_law_rows_right spSome := by
  rintro _ s Q R ⟨st, rfl, hst, q⟩
  refine ⟨rfl, ?_⟩
  have h36' : Γ 36 iInit = some spRowInit := h36
  show wpSs Γ b_law_rows_right [some (.loc st), none, none, none] s _
  unfold b_law_rows_right
  rw [wpSs_cons]
  simp only [wpS, wE_var, wE_non, wE_bl, wE_int, wE_str, wE_glo, wE_tup, wE_lst, wE_dnew, wE_ddisp, wE_bin, wE_neg, wE_cmp, wE_chn, wE_and, wE_or, wE_not, wE_ite, wE_fld, wE_ix, wE_sl, wE_call, wE_make, wE_meth, wE_sup, wE_bf, wE_bm, wE_isi, wE_fst, wpEs, List.getElem?_cons_zero, List.getElem?_cons_succ]
  refine digit_call (base := 12) h82 (by decide) (by decide) hst fun s1 r u1 v1 hr => ?_
  have eP : (1 : Int) + ((r : Nat) : Int) = ((1 + r : Nat) : Int) := by omega
  simp only [binW, eP, tgW, List.set_cons_zero, List.set_cons_succ]
  obtain ⟨w, hw⟩ : ∃ w, w = 1 + r := ⟨_, rfl⟩
  rw [← hw]
  have w1 : 1 ≤ w := by omega
  have w12 : w ≤ 12 := by omega
  clear hw eP
  rw [wpSs_cons]
  have ed : Int.fdiv 12 ((w : Nat) : Int) = ((12 / w : Nat) : Int) := fdiv_nn 12 w
  have hd1 : 1 ≤ 12 / w := (Nat.le_div_iff_mul_le (by omega)).mpr (by omega)
  have hd2 : 12 / w ≤ 12 := Nat.div_le_self _ _
  simp only [wpS, wE_var, wE_non, wE_bl, wE_int, wE_str, wE_glo, wE_tup, wE_lst, wE_dnew, wE_ddisp, wE_bin, wE_neg, wE_cmp, wE_chn, wE_and, wE_or, wE_not, wE_ite, wE_fld, wE_ix, wE_sl, wE_call, wE_make, wE_meth, wE_sup, wE_bf, wE_bm, wE_isi, wE_fst, wpEs, List.getElem?_cons_zero, List.getElem?_cons_succ, callW, h82, dflt_nil, List.append_nil, binW, ed]
  refine ⟨by unfold CDivN; omega, st, 12 / w, rfl, by omega, by omega, v1, fun s2 r2 u2 v2 hr2 => ?_⟩
  have eP : (1 : Int) + ((r2 : Nat) : Int) = ((1 + r2 : Nat) : Int) := by omega
  simp only [eP, tgW, List.set_cons_zero, List.set_cons_succ]
  obtain ⟨h, hh⟩ : ∃ h, h = 1 + r2 := ⟨_, rfl⟩
  rw [← hh]
  have h1 : 1 ≤ h := by omega
  have hwh : w * h ≤ 12 := by
    have : h ≤ 12 / w := by omega
    have h2 := Nat.mul_le_mul_left w this
    have h3 := Nat.mul_div_le 12 w
    omega
  clear hh eP
  rw [wpSs_cons]
  simp only [wpS, wE_var, wE_non, wE_bl, wE_int, wE_str, wE_glo, wE_tup, wE_lst, wE_dnew, wE_ddisp, wE_bin, wE_neg, wE_cmp, wE_chn, wE_and, wE_or, wE_not, wE_ite, wE_fld, wE_ix, wE_sl, wE_call, wE_make, wE_meth, wE_sup, wE_bf, wE_bm, wE_isi, wE_fst, wpEs, List.getElem?_cons_zero, List.getElem?_cons_succ, callW, h112, dflt_nil, List.append_nil]
  refine ⟨w, h, rfl, w1, h1, hwh, fun s3 m n3 => ?_⟩
  obtain ⟨p3, l3, x3⟩ := n3
  simp only [tgW, List.set_cons_zero, List.set_cons_succ]
  rw [wpSs_cons]
  have ew : ((w : Nat) : Int) * ((h : Nat) : Int) = ((w * h : Nat) : Int) := by simp
  have hw12 : w ≤ 12 := w12
  simp only [wpS, wE_var, wE_non, wE_bl, wE_int, wE_str, wE_glo, wE_tup, wE_lst, wE_dnew, wE_ddisp, wE_bin, wE_neg, wE_cmp, wE_chn, wE_and, wE_or, wE_not, wE_ite, wE_fld, wE_ix, wE_sl, wE_call, wE_make, wE_meth, wE_sup, wE_bf, wE_bm, wE_isi, wE_fst, wpEs, List.getElem?_cons_zero, List.getElem?_cons_succ, callW, h120, h36', mr_RowFirst_init, dflt_nil, List.append_nil, binW, ew]
  refine ⟨s3, s3.length, w, h, rfl, ⟨Pre.add _, Nat.le_refl _, at_end⟩, w1, h1, hwh, fun s4 p4 t4 _ => ⟨rfl, sz3, by unfold CMul; omega, ?_⟩⟩
  refine ⟨_, s3.length, w * h, m, rowL w h, rowW w h, rfl, .row t4, .rows (p4.at_ x3) w1 h1 hwh, p4.at_ x3, fun s5 p5 => ?_⟩
  have pp := p3.trans (p4.trans p5)
  exact q s5 ((u1.trans u2).trans (Upd.of_pre pp)) (v2.pre pp)
theorem law_loopright {Γ : Prg} (h82 : Γ 0 82 = some spDigit) (h38 : Γ 38 0 = some spLoop) (h120 : Γ 0 120 = some spRight) : Law Γ d_law_loop_right spSome := by
  rintro _ s Q R ⟨st, rfl, hst, q⟩
  refine ⟨rfl, ?_⟩
  have h38' : Γ 38 iInit = some spLoop := h38
  show wpSs Γ b_law_loop_right [some (.loc st), none, none, none] s _
  unfold b_law_loop_right
  rw [wpSs_cons]
  simp only [wpS, wE_var, wE_non, wE_bl, wE_int, wE_str, wE_glo, wE_tup, wE_lst, wE_dnew, wE_ddisp, wE_bin, wE_neg, wE_cmp, wE_chn, wE_and, wE_or, wE_not, wE_ite, wE_fld, wE_ix, wE_sl, wE_call, wE_make, wE_meth, wE_sup, wE_bf, wE_bm, wE_isi, wE_fst, wpEs, List.getElem?_cons_zero, List.getElem?_cons_succ]
  refine digit_call (base := 11) h82 (by decide) (by decide) hst fun s1 r u1 v1 hr => ?_
  have eP : (2 : Int) + ((r : Nat) : Int) = ((2 + r : Nat) : Int) := by omega
  simp only [binW, eP, tgW, List.set_cons_zero, List.set_cons_succ]
  obtain ⟨P, hP⟩ : ∃ P, P = 2 + r := ⟨_, rfl⟩
  rw [← hP]
  have P2 : 2 ≤ P := by omega
  have P12 : P ≤ 12 := by omega
  clear hP eP
  rw [wpSs_cons]
  simp only [wpS]
  unfold wpE
  simp only [wpI, wE_var, wE_non, wE_bl, wE_int, wE_str, wE_glo, wE_tup, wE_lst, wE_dnew, wE_ddisp, wE_bin, wE_neg, wE_cmp, wE_chn, wE_and, wE_or, wE_not, wE_ite, wE_fld, wE_ix, wE_sl, wE_call, wE_make, wE_meth, wE_sup, wE_bf, wE_bm, wE_isi, wE_fst, wpEs, List.getElem?_cons_zero, List.getElem?_cons_succ]
  refine ⟨by omega, ?_⟩
  rw [rng_nats]
  refine lcP (t := .free) (fun p : Nat => MV.int (p : Nat)) (fun p => some (prM (p, (p + 1) % P))) (List.range P) (by simp; omega) (fun _ => trivial) ?_ ?_
  · intro p hpr acc k ha hk
    have e4 : Int.fmod (((p : Nat) : Int) + 1) ((P : Nat) : Int) = (((p + 1) % P : Nat) : Int) := fmod_nn (p + 1) P
    simp only [wipeM, tgW, wpT, wE_var, wE_non, wE_bl, wE_int, wE_str, wE_glo, wE_tup, wE_lst, wE_dnew, wE_ddisp, wE_bin, wE_neg, wE_cmp, wE_chn, wE_and, wE_or, wE_not, wE_ite, wE_fld, wE_ix, wE_sl, wE_call, wE_make, wE_meth, wE_sup, wE_bf, wE_bm, wE_isi, wE_fst, wpEs, List.set_cons_succ, List.set_cons_zero, List.getElem?_cons_succ, List.getElem?_cons_zero, binW, bfW, if_true, e4, at_end]
    refine ⟨by omega, sz2, ha, ?_⟩
    rw [List.set_append_right _ _ (Nat.le_refl _)]
    simpa [prM] using hk
  · rw [List.filterMap_eq_map']
    have e5 : (List.range P).map (fun p => prM (p, (p + 1) % P)) = ((List.range P).map fun p => (p, (p + 1) % P)).map prM := by
      rw [List.map_map]
      rfl
    rw [e5]
    have hcl : ((List.range P).map fun p => (p, (p + 1) % P)).length ≤ 12 := by simpa using P12
    have hll : loopL P = ((List.range P).map fun p => (p, (p + 1) % P)) ++ ((List.range P).map fun p => (p, (p + 1) % P)) := rfl
    generalize (List.range P).map (fun p => (p, (p + 1) % P)) = C at hcl hll
    have x2 : (s1 ++ [MO.lst (C.map prM)])[s1.length]? = some (.lst (C.map prM)) := at_end
    have p2 : Pre s1 (s1 ++ [MO.lst (C.map prM)]) := Pre.add _
    simp only [Still.out, tgW, List.set_cons_succ, List.set_cons_zero]
    generalize s1 ++ [MO.lst (C.map prM)] = s2 at x2 p2
    generalize s1.length = m at x2
    rw [wpSs_cons]
    simp only [wpS, wE_var, wE_non, wE_bl, wE_int, wE_str, wE_glo, wE_tup, wE_lst, wE_dnew, wE_ddisp, wE_bin, wE_neg, wE_cmp, wE_chn, wE_and, wE_or, wE_not, wE_ite, wE_fld, wE_ix, wE_sl, wE_call, wE_make, wE_meth, wE_sup, wE_bf, wE_bm, wE_isi, wE_fst, wpEs, List.getElem?_cons_zero, List.getElem?_cons_succ, callW, h120, h38', mr_Loop_init, dflt_nil, List.append_nil]
    refine ⟨s2, s2.length, P, rfl, ⟨Pre.add _, Nat.le_refl _, at_end⟩, P2, P12, fun s4 p4 t4 _ => ⟨rfl, sz2, ?_⟩⟩
    have x4 := p4.at_ x2
    simp only [binW, x4]
    refine ⟨by simp [sizeLine]; omega, ?_⟩
    have p5 : Pre s4 (s4 ++ [MO.lst (C.map prM ++ C.map prM)]) := Pre.add _
    have x5 : (s4 ++ [MO.lst (C.map prM ++ C.map prM)])[s4.length]? = some (.lst ((loopL P).map prM)) := by rw [at_end, hll, List.map_append]
    generalize s4 ++ [MO.lst (C.map prM ++ C.map prM)] = s5 at p5 x5
    refine ⟨_, s2.length, P, s4.length, loopL P, loopW P, rfl, (TabR.loop t4).mono p5, .loop P2 P12, x5, fun s6 p6 => ?_⟩
    have pp := p2.trans (p4.trans (p5.trans p6))
    exact q s6 (u1.trans (Upd.of_pre pp)) (v1.pre pp)
theorem law_treeright {Γ : Prg} (h84 : Γ 0 84 = some spParents) (h41 : Γ 41 0 = some spTree) (h120 : Γ 0 120 = some spRight) : Law Γ d_law_tree_right spSome := by
  rintro _ s Q R ⟨st, rfl, hst, q⟩
  refine ⟨rfl, ?_⟩
  have h41' : Γ 41 iInit = some spTree := h41
  show wpSs Γ b_law_tree_right [some (.loc st), none, none, none] s _
  unfold b_law_tree_right
  rw [wpSs_cons]
  simp only [wpS, wE_var, wE_non, wE_bl, wE_int, wE_str, wE_glo, wE_tup, wE_lst, wE_dnew, wE_ddisp, wE_bin, wE_neg, wE_cmp, wE_chn, wE_and, wE_or, wE_not, wE_ite, wE_fld, wE_ix, wE_sl, wE_call, wE_make, wE_meth, wE_sup, wE_bf, wE_bm, wE_isi, wE_fst, wpEs, List.getElem?_cons_zero, List.getElem?_cons_succ, callW, h84, dflt_nil, List.append_nil]
  refine ⟨st, 11, rfl, by decide, hst, fun s1 m ab u1 v1 hm x1 hab => ?_⟩
  have hal := hab.1
  simp only [tgW, List.set_cons_zero, List.set_cons_succ]
  rw [wpSs_cons]
  simp only [wpS, wE_var, wE_non, wE_bl, wE_int, wE_str, wE_glo, wE_tup, wE_lst, wE_dnew, wE_ddisp, wE_bin, wE_neg, wE_cmp, wE_chn, wE_and, wE_or, wE_not, wE_ite, wE_fld, wE_ix, wE_sl, wE_call, wE_make, wE_meth, wE_sup, wE_bf, wE_bm, wE_isi, wE_fst, wpEs, tgW, List.set_cons_zero, List.set_cons_succ]
  refine ⟨sz0, ?_⟩
  have p2 : Pre s1 (s1 ++ [MO.lst []]) := Pre.add _
  have x2 : (s1 ++ [MO.lst []])[s1.length]? = some (.lst ((treeL (ab.take 0)).map prM)) := at_end
  generalize s1 ++ [MO.lst []] = s2 at p2 x2
  rw [wpSs_cons]
  simp only [wpS, wpI, wE_var, wE_non, wE_bl, wE_int, wE_str, wE_glo, wE_tup, wE_lst, wE_dnew, wE_ddisp, wE_bin, wE_neg, wE_cmp, wE_chn, wE_and, wE_or, wE_not, wE_ite, wE_fld, wE_ix, wE_sl, wE_call, wE_make, wE_meth, wE_sup, wE_bf, wE_bm, wE_isi, wE_fst, wpEs, List.getElem?_cons_zero, List.getElem?_cons_succ, bfW, seqOf, p2.at_ x1]
  refine ⟨by rw [natsM_len]; omega, ?_⟩
  rw [natsM_len, rng_nats]
  refine forP (t := .free) (fun p : Nat => MV.int (p : Nat)) (fun i σ s' => ∃ (l : Nat) (a : Option MV), σ = [some (.loc st), some (.loc m), some (.loc l), a] ∧ Pre s1 s' ∧ s'[l]? = some (.lst ((treeL (ab.take i)).map prM))) (List.range ab.length) (fun _ _ _ _ _ => trivial) ?_ ?_ ⟨_, _, rfl, p2, x2⟩
  · rintro i x σ s3 hx ⟨l, a, rfl, p3, x3⟩ k hk
    obtain ⟨hil, hx2⟩ := List.getElem?_eq_some_iff.mp hx
    have hil' : i < ab.length := by simpa using hil
    have hxe : x = i := by rw [← hx2]; simp
    subst hxe
    obtain ⟨y, hy⟩ : ∃ y, ab[x]? = some y := ⟨_, List.getElem?_eq_getElem hil'⟩
    have ay : atI (natsM ab) ((x : Nat) : Int) = some (.int (y : Nat)) := by rw [atN]; simp [natsM, hy]
    simp only [tgW, List.set_cons_zero, List.set_cons_succ]
    rw [wpSs_cons]
    simp only [wpS, wE_var, wE_non, wE_bl, wE_int, wE_str, wE_glo, wE_tup, wE_lst, wE_dnew, wE_ddisp, wE_bin, wE_neg, wE_cmp, wE_chn, wE_and, wE_or, wE_not, wE_ite, wE_fld, wE_ix, wE_sl, wE_call, wE_make, wE_meth, wE_sup, wE_bf, wE_bm, wE_isi, wE_fst, wpEs, List.getElem?_cons_zero, List.getElem?_cons_succ, bW_add, ixW, p3.at_ x1, atW, ay]
    refine ⟨sz2, sz2, sz2, ?_⟩
    have p4 : Pre s3 (s3 ++ [MO.lst [.tup [.int (((x : Nat) : Int) + 1), .int (y : Nat)], .tup [.int (y : Nat), .int (((x : Nat) : Int) + 1)]]]) := Pre.add _
    have x4 : (s3 ++ [MO.lst [.tup [.int (((x : Nat) : Int) + 1), .int (y : Nat)], .tup [.int (y : Nat), .int (((x : Nat) : Int) + 1)]]])[s3.length]? = some (.lst [.tup [.int (((x : Nat) : Int) + 1), .int (y : Nat)], .tup [.int (y : Nat), .int (((x : Nat) : Int) + 1)]]) := at_end
    have y4 := p4.at_ x3
    generalize s3 ++ [MO.lst [.tup [.int (((x : Nat) : Int) + 1), .int (y : Nat)], .tup [.int (y : Nat), .int (((x : Nat) : Int) + 1)]]] = s4 at p4 x4 y4
    have hl := treeL_len (ab.take x)
    rw [List.length_take] at hl
    simp only [binW, y4, x4, tgW, List.set_cons_zero, List.set_cons_succ, wpSs_nil]
    refine ⟨by rw [List.length_map]; simp [sizeLine]; omega, hk _ _ ⟨_, _, rfl, p3.trans (p4.trans (Pre.add _)), ?_⟩⟩
    rw [at_end, List.take_add_one, hy]
    simp only [Option.toList]
    rw [treeL_snoc, List.length_take, Nat.min_eq_left (by omega)]
    simp [prM]
  · rintro σ s3 ⟨l, a, rfl, p3, x3⟩
    simp only [Still.out]
    rw [List.length_range, List.take_length] at x3
    rw [wpSs_cons]
    simp only [wpS, wE_var, wE_non, wE_bl, wE_int, wE_str, wE_glo, wE_tup, wE_lst, wE_dnew, wE_ddisp, wE_bin, wE_neg, wE_cmp, wE_chn, wE_and, wE_or, wE_not, wE_ite, wE_fld, wE_ix, wE_sl, wE_call, wE_make, wE_meth, wE_sup, wE_bf, wE_bm, wE_isi, wE_fst, wpEs, List.getElem?_cons_zero, List.getElem?_cons_succ, callW, h120, h41', mr_Tree_init, dflt_nil, List.append_nil]
    refine ⟨s3, s3.length, m, ab, rfl, ⟨Pre.add _, Nat.le_refl _, at_end⟩, (p3.trans (Pre.add _)).at_ x1, hab, fun s4 p4 t4 _ => ⟨rfl, sz2, ?_⟩⟩
    have y4 := (p3.trans p4).at_ x1
    simp only [bfW, seqOf, y4, binW, natsM_len]
    refine ⟨_, s3.length, ab.length + 1, l, treeL ab, treeW ab, rfl, .tree t4, .tree y4 hab, p4.at_ x3, fun s5 p5 => ?_⟩
    have pp := p3.trans (p4.trans p5)
    exact q s5 (u1.trans (Upd.of_pre pp)) (v1.pre pp)
theorem cut_to (ns : List Int) (k : Nat) : ∃ cs : List Int, cutM (ns.map .int) none (some (k : Int)) = cs.map .int ∧ cs.length ≤ ns.length := by
  unfold cutM
  rw [← List.map_drop, ← List.map_take]
  refine ⟨_, rfl, ?_⟩
  rw [List.length_take, List.length_drop]
  omega
theorem some_call {Γ : Prg} {f : Nat} (h : Γ 0 f = some spSome) {s : MS} {st : Nat} (hst : StV s st) {Q : QV} {R : QX} (q : ∀ s', Upd st s s' → StV s' st → Q (.bl true) s') : callW Γ 0 f fun sp => sp [.loc st] s Q R := by
  simp only [callW, h, dflt_nil]
  exact ⟨st, rfl, hst, q⟩
theorem law_law {Γ : Prg} (h82 : Γ 0 82 = some spDigit) (h83 : Γ 0 83 = some spPairs) (h121 : Γ 0 121 = some spSome) (h122 : Γ 0 122 = some spSome) (h123 : Γ 0 123 = some spSome) (h120 : Γ 0 120 = some spRight) (h44 : Γ 44 0 = some spNear) (h17 : Γ 17 0 = some spLand) : Law Γ d_law (spLaw 63) := by
  rintro _ s Q R ⟨ns, rfl, rfl, hn, q⟩
  refine ⟨rfl, ?_⟩
  have h44' : Γ 44 iInit = some spNear := h44
  have h17' : Γ 17 iInit = some spLand := h17
  show wpSs Γ b_law [some (.flst (ns.map .int)), none, none, none, none] [] _
  unfold b_law
  rw [wpSs_cons]
  obtain ⟨cs, hcs, hcl⟩ := cut_to ns 4
  have hcs' : cutM (ns.map .int) none (some 4) = cs.map .int := hcs
  simp only [wpS, wpI, wE_var, wE_non, wE_bl, wE_int, wE_str, wE_glo, wE_tup, wE_lst, wE_dnew, wE_ddisp, wE_bin, wE_neg, wE_cmp, wE_chn, wE_and, wE_or, wE_not, wE_ite, wE_fld, wE_ix, wE_sl, wE_call, wE_make, wE_meth, wE_sup, wE_bf, wE_bm, wE_isi, wE_fst, wpEs, wpO, List.getElem?_cons_zero, List.getElem?_cons_succ, slW, hcs', binW]
  refine ⟨sz1, ?_⟩
  have e0 : cs.map MV.int ++ [MV.int 3] = (cs ++ [3]).map MV.int := by simp
  have y1 : (([] : MS) ++ [MO.lst (cs.map .int)] ++ [MO.lst [.int 3]])[([] : MS).length]? = some (.lst (cs.map .int)) := rfl
  have y2 : (([] : MS) ++ [MO.lst (cs.map .int)] ++ [MO.lst [.int 3]])[(([] : MS) ++ [MO.lst (cs.map .int)]).length]? = some (.lst [.int 3]) := rfl
  simp only [y1, y2]
  refine ⟨by simp [sizeLine]; omega, ?_⟩
  rw [e0]
  have x1 : (([] : MS) ++ [MO.lst (cs.map .int)] ++ [MO.lst [.int 3]] ++ [MO.lst ((cs ++ [3]).map .int)])[(([] : MS) ++ [MO.lst (cs.map .int)] ++ [MO.lst [.int 3]]).length]? = some (.lst ((cs ++ [3]).map .int)) := at_end
  simp only [seqIt, x1]
  generalize cs ++ [3] = cells at x1
  generalize ([] : MS) ++ [MO.lst (cs.map .int)] ++ [MO.lst [.int 3]] ++ [MO.lst (cells.map .int)] = s1 at x1
  generalize (([] : MS) ++ [MO.lst (cs.map .int)] ++ [MO.lst [.int 3]]).length = t at x1
  refine forP (t := .obj t (cells.map .int)) MV.int (fun _ σ s' => ∃ a1 a2 a3 a4, σ = [some (.flst (ns.map .int)), a1, a2, a3, a4] ∧ s'[t]? = some (.lst (cells.map .int))) cells
    (fun _ _ _ _ h' => by obtain ⟨_, _, _, _, _, z⟩ := h'; exact z) ?_ ?_ ⟨_, _, _, _, rfl, x1⟩
  · rintro i cell σ s2 hx ⟨a1, a2, a3, a4, rfl, x2⟩ k hk
    simp only [tgW, List.set_cons_zero, List.set_cons_succ]
    rw [wpSs_cons]
    simp only [wpS, wE_var, wE_non, wE_bl, wE_int, wE_str, wE_glo, wE_tup, wE_lst, wE_dnew, wE_ddisp, wE_bin, wE_neg, wE_cmp, wE_chn, wE_and, wE_or, wE_not, wE_ite, wE_fld, wE_ix, wE_sl, wE_call, wE_make, wE_meth, wE_sup, wE_bf, wE_bm, wE_isi, wE_fst, wpEs, List.getElem?_cons_zero, List.getElem?_cons_succ, tgW, List.set_cons_zero, List.set_cons_succ]
    refine ⟨sz1, ?_⟩
    have v3 : StV (s2 ++ [MO.lst [.int cell]]) s2.length := .inl ⟨cell, at_end⟩
    have x3 : (s2 ++ [MO.lst [.int cell]])[t]? = some (.lst (cells.map .int)) := (Pre.add _).at_ x2
    have hts : t ≠ s2.length := by have := lt_of_at x2; omega
    generalize s2 ++ [MO.lst [.int cell]] = s3 at v3 x3
    generalize s2.length = st at v3 hts
    rw [wpSs_cons]
    simp only [wpS, wE_var, wE_non, wE_bl, wE_int, wE_str, wE_glo, wE_tup, wE_lst, wE_dnew, wE_ddisp, wE_bin, wE_neg, wE_cmp, wE_chn, wE_and, wE_or, wE_not, wE_ite, wE_fld, wE_ix, wE_sl, wE_call, wE_make, wE_meth, wE_sup, wE_bf, wE_bm, wE_isi, wE_fst, wpEs, List.getElem?_cons_zero, List.getElem?_cons_succ]
    refine some_call h121 v3 fun s4 u4 v4 => ?_
    simp only [Bool.not_true]
    refine some_call h122 v4 fun s5 u5 v5 => ?_
    simp only [Bool.not_true]
    refine some_call h123 v5 fun s6 u6 v6 => ?_
    simp only [Bool.not_true, wpSs_nil]
    have u06 := (u4.trans u5).trans u6
    rw [wpSs_cons]
    simp only [wpS, wE_var, wE_non, wE_bl, wE_int, wE_str, wE_glo, wE_tup, wE_lst, wE_dnew, wE_ddisp, wE_bin, wE_neg, wE_cmp, wE_chn, wE_and, wE_or, wE_not, wE_ite, wE_fld, wE_ix, wE_sl, wE_call, wE_make, wE_meth, wE_sup, wE_bf, wE_bm, wE_isi, wE_fst, wpEs, List.getElem?_cons_zero, List.getElem?_cons_succ]
    refine digit_call (base := 7) h82 (by decide) (by decide) v6 fun s7 r u7 v7 hr => ?_
    have eP : (1 : Int) + ((r : Nat) : Int) = ((1 + r : Nat) : Int) := by omega
    simp only [binW, eP, tgW, List.set_cons_zero, List.set_cons_succ]
    obtain ⟨P, hPe⟩ : ∃ P, P = 1 + r := ⟨_, rfl⟩
    rw [← hPe]
    have P1 : 1 ≤ P := by omega
    have P7 : P ≤ 7 := by omega
    clear hPe eP
    rw [wpSs_cons]
    simp only [wpS, wE_var, wE_non, wE_bl, wE_int, wE_str, wE_glo, wE_tup, wE_lst, wE_dnew, wE_ddisp, wE_bin, wE_neg, wE_cmp, wE_chn, wE_and, wE_or, wE_not, wE_ite, wE_fld, wE_ix, wE_sl, wE_call, wE_make, wE_meth, wE_sup, wE_bf, wE_bm, wE_isi, wE_fst, wpEs, List.getElem?_cons_zero, List.getElem?_cons_succ, callW, h83, dflt_nil, List.append_nil]
    refine ⟨st, P, 14, rfl, P1, by omega, by omega, v7, fun s8 m L u8 v8 hm8 x8 hL lk => ?_⟩
    have u08 := (u06.trans u7).trans u8
    simp only [tgW, List.set_cons_zero, List.set_cons_succ]
    rw [wpSs_cons]
    simp only [wpS, wE_var, wE_non, wE_bl, wE_int, wE_str, wE_glo, wE_tup, wE_lst, wE_dnew, wE_ddisp, wE_bin, wE_neg, wE_cmp, wE_chn, wE_and, wE_or, wE_not, wE_ite, wE_fld, wE_ix, wE_sl, wE_call, wE_make, wE_meth, wE_sup, wE_bf, wE_bm, wE_isi, wE_fst, wpEs, List.getElem?_cons_zero, List.getElem?_cons_succ, callW, h120, h44', h17', mr_Nearer_init, mr_Land_init, dflt_nil, List.append_nil]
    refine ⟨s8.length, m, P, L, rfl, by have := lt_of_at x8; omega, at_end, (Pre.add _).at_ x8, lk, rfl, ?_⟩
    rw [List.set_append_right _ _ (Nat.le_refl _)]
    simp only [Nat.sub_self, List.set_cons_zero]
    have p9 : Pre s8 (s8 ++ [MO.ins 17 (landFs P L)]) := Pre.add _
    have x9 : LandR (s8 ++ [MO.ins 17 (landFs P L)]) s8.length P L := at_end
    generalize s8 ++ [MO.ins 17 (landFs P L)] = s9 at p9 x9
    refine ⟨s9, s9.length, s8.length, P, L, rfl, ⟨Pre.add _, Nat.le_refl _, at_end⟩, x9.mono (Pre.add _), lk, fun s10 p10 t10 _ => ⟨rfl, sz3, ?_⟩⟩
    have x10 := (p9.trans p10).at_ x8
    refine ⟨_, s9.length, P, m, L, nearW P L, rfl, .near t10, .near x10 lk, x10, fun s11 p11 => ?_⟩
    simp only [Bool.not_true, wpSs_nil]
    exact hk _ _ ⟨_, _, _, _, rfl, (u08.trans (Upd.of_pre (p9.trans (p10.trans p11)))).at_ hts x3⟩
  · rintro σ s2 ⟨a1, a2, a3, a4, rfl, x2⟩
    simp only [Still.out]
    rw [wpSs_cons]
    simp only [wpS, wE_var, wE_non, wE_bl, wE_int, wE_str, wE_glo, wE_tup, wE_lst, wE_dnew, wE_ddisp, wE_bin, wE_neg, wE_cmp, wE_chn, wE_and, wE_or, wE_not, wE_ite, wE_fld, wE_ix, wE_sl, wE_call, wE_make, wE_meth, wE_sup, wE_bf, wE_bm, wE_isi, wE_fst]
    exact q s2
end Ly
namespace Ly
open PySem L2
open PyProof.Rows hiding St
abbrev n0 : List (Df × MSp) := [(d_Land_end_of, spEnd), (d_Land_start_of, spStart), (d_Land_out_of, spOut), (d_Land_into, spInto), (d_Land_init, spLand), (d_Table_init, spTabI), (d_Loop_ways, spLoopWays), (d_Tree_ways, spTreeWays), (d_Told_ways, spDictWays 101), (d_are_parents, spPar), (d_joined, spJoined), (d_law_row_lanes, spJoined), (d_row_text, spRowText), (d_number_of, spNumber), (d_rows_of, spRowsOf), (d_law_digit, spDigit), (d_law_row_ways, spLawRow), (d_law_loop_ways, spLawLoop), (d_law_tree_ways, spLawTree), (d_law_far, spFar)]
abbrev l1 : List (Df × MSp) := n0 ++ []
theorem c1 : Ch 2 l1 := by
  refine Ch.tier n0 .nil ?_
  simp only [n0, List.forall_mem_cons]
  exact ⟨law_end, law_start, law_out, law_into, law_land, law_tabi, law_loopways, law_treeways, law_toldways, law_par, law_joined, law_rowlanes, law_rowtext, law_number, law_rowsof, law_digit, law_lawrow, law_lawloop, law_lawtree, law_far, fun _ h => nomatch h⟩
abbrev n1 : List (Df × MSp) := [(d_RowFirst_ways, spRowWays), (d_Nearer_ways, spNearWays), (d_Told_is_good, spGood), (d_distances, spDist), (d_Loop_init, spLoop), (d_Tree_init, spTree), (d_RowFirst_init, spRowInit), (d_numbers_of, spNumbers), (d_law_parents, spParents), (d_law_pairs, spPairs), (d_law_near_ways, spLawNear)]
abbrev l2 : List (Df × MSp) := n1 ++ l1
theorem c2 : Ch 4 l2 := by
  refine Ch.tier n1 c1 ?_
  simp only [n1, List.forall_mem_cons]
  exact ⟨law_rowways ⟨rfl, rfl, rfl, rfl⟩, law_nearways ⟨rfl, rfl, rfl, rfl⟩, law_good ⟨rfl, rfl, rfl, rfl⟩, law_dist ⟨rfl, rfl, rfl, rfl⟩, law_loop rfl rfl, law_tree rfl rfl rfl, law_rowinit rfl rfl rfl, law_numbers rfl, law_parents rfl, law_pairs rfl, law_lawnear rfl, fun _ h => nomatch h⟩
abbrev n2 : List (Df × MSp) := [(d_way_rows, spWayRows), (d_Nearer_init, spNear), (d_Told_init, spTold), (d_entry_of, spEntry), (d_law_ways, spLawWays)]
abbrev l3 : List (Df × MSp) := n2 ++ l2
theorem c3 : Ch 6 l3 := by
  refine Ch.tier n2 c2 ?_
  simp only [n2, List.forall_mem_cons]
  exact ⟨law_wayrows ⟨fun _ => rfl, fun _ => rfl, fun _ => rfl, fun _ => rfl, fun _ => rfl, fun h => absurd h (by decide)⟩ ⟨rfl, rfl, rfl, rfl⟩ rfl, law_near rfl rfl, law_told rfl rfl, law_entry rfl rfl, law_lawways rfl rfl rfl rfl, fun _ h => nomatch h⟩
abbrev n3 : List (Df × MSp) := [(d_table_text, spTableText), (d_table_of, spTableOf), (d_law_text, spLawText)]
abbrev l4 : List (Df × MSp) := n3 ++ l3
theorem c4 : Ch 8 l4 := by
  refine Ch.tier n3 c3 ?_
  simp only [n3, List.forall_mem_cons]
  exact ⟨law_tabletext rfl rfl, law_tableof rfl rfl rfl rfl, law_lawtext rfl, fun _ h => nomatch h⟩
abbrev n4 : List (Df × MSp) := [(d_read_table, spRead)]
abbrev l5 : List (Df × MSp) := n4 ++ l4
theorem c5 : Ch 10 l5 := by
  refine Ch.tier n4 c4 ?_
  simp only [n4, List.forall_mem_cons]
  exact ⟨law_read rfl rfl rfl, fun _ h => nomatch h⟩
abbrev n5 : List (Df × MSp) := [(d_law_right, spRight)]
abbrev l6 : List (Df × MSp) := n5 ++ l5
theorem c6 : Ch 12 l6 := by
  refine Ch.tier n5 c5 ?_
  simp only [n5, List.forall_mem_cons]
  exact ⟨law_right ⟨fun _ => rfl, fun _ => rfl, fun _ => rfl, fun _ => rfl, fun _ => rfl, fun h => absurd h (by decide)⟩ rfl rfl rfl rfl, fun _ h => nomatch h⟩
abbrev n6 : List (Df × MSp) := [(d_law_rows_right, spSome), (d_law_loop_right, spSome), (d_law_tree_right, spSome)]
abbrev l7 : List (Df × MSp) := n6 ++ l6
theorem c7 : Ch 14 l7 := by
  refine Ch.tier n6 c6 ?_
  simp only [n6, List.forall_mem_cons]
  exact ⟨law_rowsright rfl rfl rfl rfl, law_loopright rfl rfl rfl, law_treeright rfl rfl rfl, fun _ h => nomatch h⟩
theorem c_law : Law (prgD l7) d_law (spLaw 63) := law_law rfl rfl rfl rfl rfl rfl rfl rfl
end Ly
set_option maxHeartbeats 0
namespace Ly
open PySem L2
open PyProof.Rows hiding St
def FLk : List Nat := [18, 19, 25, 30, 37, 39, 42, 45]
def dsA : List Df := [d_law, d_law_rows_right, d_law_loop_right, d_law_tree_right, d_law_right, d_read_table, d_table_text, d_table_of, d_law_text, d_way_rows, d_Nearer_init, d_Told_init, d_entry_of, d_law_ways, d_RowFirst_ways, d_Nearer_ways, d_Told_is_good, d_distances, d_Loop_init, d_Tree_init, d_RowFirst_init, d_numbers_of, d_law_parents, d_law_pairs, d_law_near_ways, d_Land_end_of, d_Land_start_of, d_Land_out_of, d_Land_into, d_Land_init, d_Table_init, d_Loop_ways, d_Tree_ways, d_Told_ways, d_are_parents, d_joined, d_law_row_lanes, d_row_text, d_number_of, d_rows_of, d_law_digit, d_law_row_ways, d_law_loop_ways, d_law_tree_ways, d_law_far]
abbrev Rw : PySem.W.OpenRow := PySem.W.OpenLaw.row lw
abbrev hkk : PySem.W.Hook := hookL 8 (dsA.map (·.d)) (stB FLk (kys dsA))
def obk (s : PySem.W.SharedT) : AlL := obsL 8 (dsA.map (·.d)) (stB FLk (kys dsA)) (HandSHeadRun.getT s)
theorem obk_eq (s : PySem.W.SharedT) : obk s = hkk.obs s.abs := obsL_eq (HandSHeadRun.getT_eq s)
def loosek : List PySem.Str := (["YardError", "NoPlaces", "TooMany", "NoRoad", "NoEntry", "NoText", "Land", "Table", "Told", "joined", "RowFirst", "Loop", "are_parents", "Tree", "distances", "Nearer", "FIGURES", "row_text", "way_rows", "table_text", "number_of", "numbers_of", "entry_of", "table_of", "rows_of", "read_table", "_law_cell_at", "_law_digit", "_law_pairs", "_law_parents"] : List PySem.Str) ++ (["_law_rows", "_law_row_lanes", "_law_row_ways", "_law_loop_ways", "_law_tree_ways", "_law_far", "_law_near_ways", "_law_ways", "_law_text", "_law_right", "_law_rows_right", "_law_loop_right", "_law_tree_right"] : List PySem.Str)
theorem runk (w : World) : HandSHeadRun.RunEq Rw (PySem.W.view Rw.prog [49]) hkk obk 6000 loosek w := by
  intro os
  kernel_rfl
end Ly
set_option maxHeartbeats 0
namespace Ly
open PySem L2
open PyProof.Rows hiding St
/-- a law's end, over CX of the world -/
theorem walk_ofL {l : PySem.W.OpenLaw} {n k : Nat} {q : Program} {loose : List Str} {XP : (Str → Option Value) → Heap → Prop} {YP : World → Heap → Prop} {d : DefRec} {CX : World → CXT} {x : Str}
    (hn : l.most = some n) (hn2 : n ≤ sizeLine) (hdf : d.params.defaults = []) (hr : Room k callerA)
    (F : ∀ (w : World) (mg : Str → Option Value) (fa : Addr) (h : Heap), YP w h → h.Ns mainGlobals mg → mg d.name = some (.ref fa) →
      ∃ (K : PySem.W.Frag) (fd : FuncData) (sp : Sp), K.In h ∧ (∀ (s : Shared) (u : Value), BindsTo s fd ⟨[u], []⟩ [(x, u)]) ∧
        (∀ (H : Hp) (a : Addr) (ns : List Int), ns.length ≤ n → Only H → SqL K H a (ns.map V.int) → sp [.ref a] H (fun v _ => v = .bl true) fun _ _ _ => False) ∧
        ∀ base : Heap, K.In base → base.Ns mainGlobals mg → FnOk l.prog w K mg base (CX w) k fa fd [x] sp)
    (hCX : ∀ (w : World) (H : Hp) (s : Shared) (e : Value) (s' : Shared), CX w [] H s (fun _ _ _ => False) e s' → False) :
    PySem.W.WalkO q loose XP YP l.row.toRowW d [] (fun f vs => PySem.call f vs) := by
  refine Att.attach_call hn hdf fun w s₀ s₁ mg mb fa o pm cd doc a vs ns G Y ho hd hcd hmg hobj hints hlen hg => ?_
  obtain ⟨K, fd, sp, KX, hb, hsp, hF⟩ := F w mg fa _ Y G.T.g hmg
  exact law_call KX G.T.g G.T.b G.T.builtins G.T.nolimit hg hobj hints (Nat.le_trans hlen hn2) hr hF hb (fun H hO hS => hsp H a ns hlen hO hS) fun H e s' => hCX w H s₁ e s'
theorem okA : (dsA.all fun y => y.ok FLk) = true := by decide +kernel
theorem injA : (FLk.map nmOf).Nodup := by decide +kernel
end Ly
open PySem PySem.W PySem.Calls PyProof.Rows
theorem PySem.Challenge.cw_wormyard_k26_made_by_every_lane_holds : PySem.Challenge.rw_wormyard_k26_made_by_every_lane.Holds := by
  w_on; o_law
  refine HandSHeadRun.head_any (r := Ly.Rw) (q := view Ly.Rw.prog [49]) (H := Ly.hkk) (ob := Ly.obk) (M := 6000) (loose := Ly.loosek) (d := HandSHeadRun.topDef Ly.Rw.prog 49) (kwd := []) Ly.obk_eq
    (by kernel_rfl) (fun s => by kernel_rfl) Ly.runk (by kernel_rfl) (by kernel_rfl) (by kernel_rfl) (by rfl) (by first | assumption | decide +kernel) (by decide +kernel) ⟨rfl, rfl, rfl, rfl, rfl, by decide +kernel⟩ ?hw ?hc
  case hw => w_witness2
  case hc =>
    refine Ly.walk_ofL (l := Ly.lw) (n := 63) (k := 16) (x := "script") (CX := fun w => L2.CX Ly.pg w) rfl (by decide) (by kernel_rfl) ⟨rfl, by decide, by decide⟩ ?F (fun w H s e s' h => ?X)
    case X => exact let ⟨_, _, _, _, _, _, _, _, _, _, _, _, z⟩ := h; z
    intro w mg fa h Y G hmg0
    obtain ⟨K, KX, c⟩ := Y
    have hmg : mg (Ly.nmOf Ly.d_law.m) = some (.ref fa) := by
      have e : (HandSHeadRun.topDef Ly.Rw.prog 49).name = Ly.nmOf Ly.d_law.m := by kernel_rfl
      rw [← e]
      exact hmg0
    obtain ⟨fd, hb, hsp, hF⟩ := Ly.law_at (P := Ly.pg) (w := w) (FL := Ly.FLk) (l := Ly.l7) (x := Ly.d_law) KX G hmg rfl c rfl Ly.injA Ly.okA (fun _ _ _ => rfl) Ly.c7 Ly.c_law rfl
    exact ⟨K, fd, _, KX, hb, hsp, hF⟩
