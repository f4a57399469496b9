import PyProof.Rows.All
import Wide.All
import OpenK.AllK
import Wide.FinOn
import HandS.ForMost
import HandS.TupAny
import HandS.Wide
import KE.KDictKeyed
import KE.KDictWalk
import HandS.Codes
import PyProof.ListMulAny
import PyProof.Rows.IntBool
import HandS.Deep
import HandS.IsInst
import HandS.TupLen
import HandS.Conv
import KE.KDictCopyH
import HandS.Iter
import KE.KDictPairs
import KE.SortData
import KE.SortKeyHeap
import KE.KDictSum
import HandS.MakeKwOnly
import HandS.Zip
import HandS.More
import HandS.DictTup
import HandS.Flow
import HandS.Style
import HandS.StrMore
import HandS.TupLe
import PyProof.Draws
import PyProof.EnumMake
import HandS.List
import HandS.SetBool
import PySem.Challenge.RW_lookdue_k11_places_of_patterns
set_option Elab.async false
set_option linter.all false
/-! Data as trees, a small language, its interpreter. -/
namespace Z

/-- data: a list, a dict, a set, an instance bears whether it is owned (true) or frozen (false) -/
inductive D where
  | non | bl (b : Bool) | int (i : Int) | str (s : List Nat)
  | tup (xs : List D) | lst (o : Bool) (xs : List D) | dct (o : Bool) (kvs : List (D × D)) | set (o : Bool) (xs : List D)
  | ins (o : Bool) (c : Nat) (fs : List (Nat × D))

mutual
def D.frz : D → D
  | .tup xs => .tup (frzL xs)
  | .lst _ xs => .lst false (frzL xs)
  | .dct _ kvs => .dct false (frzP kvs)
  | .set _ xs => .set false (frzL xs)
  | .ins _ c fs => .ins false c (frzF fs)
  | .non => .non
  | .bl b => .bl b
  | .int i => .int i
  | .str s => .str s
def frzL : List D → List D
  | [] => []
  | d :: r => d.frz :: frzL r
def frzP : List (D × D) → List (D × D)
  | [] => []
  | (k, v) :: r => (k.frz, v.frz) :: frzP r
def frzF : List (Nat × D) → List (Nat × D)
  | [] => []
  | (k, v) :: r => (k, v.frz) :: frzF r
end
mutual
def D.own : D → Bool
  | .tup xs => ownL xs
  | .lst o xs => o || ownL xs
  | .dct o kvs => o || ownP kvs
  | .set o xs => o || ownL xs
  | .ins o _ fs => o || ownF fs
  | .non => false
  | .bl _ => false
  | .int _ => false
  | .str _ => false
def ownL : List D → Bool
  | [] => false
  | d :: r => d.own || ownL r
def ownP : List (D × D) → Bool
  | [] => false
  | (k, v) :: r => k.own || (v.own || ownP r)
def ownF : List (Nat × D) → Bool
  | [] => false
  | (_, v) :: r => v.own || ownF r
end
mutual
/-- how deep; 1000 with a dict, a set, an instance within -/
def D.dep : D → Nat
  | .tup xs => depL xs + 1
  | .lst _ xs => depL xs + 1
  | .dct _ _ => 1000
  | .set _ _ => 1000
  | .ins _ _ _ => 1000
  | .non => 0
  | .bl _ => 0
  | .int _ => 0
  | .str _ => 0
def depL : List D → Nat
  | [] => 0
  | d :: r => max d.dep (depL r)
end
def b2i (b : Bool) : Int := if b then 1 else 0
mutual
/-- == -/
def D.peq : D → D → Bool
  | .non, .non => true
  | .bl a, .bl b => a == b
  | .bl a, .int j => b2i a == j
  | .int i, .bl b => i == b2i b
  | .int i, .int j => i == j
  | .str s, .str t => s == t
  | .tup xs, .tup ys => peqL xs ys
  | .lst _ xs, .lst _ ys => peqL xs ys
  | _, _ => false
def peqL : List D → List D → Bool
  | [], [] => true
  | x :: xs, y :: ys => x.peq y && peqL xs ys
  | _, _ => false
end
/-! ### keys of dicts -/
mutual
/-- may be hashed -/
def D.hs : D → Bool
  | .tup xs => hsL xs
  | .lst _ _ => false
  | .dct _ _ => false
  | .set _ _ => false
  | .ins _ _ _ => false
  | .non => true
  | .bl _ => true
  | .int _ => true
  | .str _ => true
def hsL : List D → Bool
  | [] => true
  | d :: r => d.hs && hsL r
end
/-- the kind of a key: a text, a tuple; 0: none -/
def D.kd : D → Nat
  | .str _ => 1
  | .tup xs => if hsL xs && decide (depL xs ≤ 7) then 2 else 0
  | _ => 0
def kOk (n : Nat) (kvs : List (D × D)) : Bool := kvs.all fun p => p.1.kd == n
def kin (kvs : List (D × D)) (x : D) : Bool := !(x.kd == 0) && kOk x.kd kvs
def dget : List (D × D) → D → Option D
  | [], _ => none
  | (k, v) :: r, x => if k.peq x then some v else dget r x
def drep : List (D × D) → D → D → List (D × D)
  | [], _, _ => []
  | (k, v) :: r, x, y => if k.peq x then (k, y) :: r else (k, v) :: drep r x y
def dput (kvs : List (D × D)) (x y : D) : List (D × D) := if (dget kvs x).isSome then drep kvs x y else kvs ++ [(x, y)]
def ddel : List (D × D) → D → List (D × D)
  | [], _ => []
  | (k, v) :: r, x => if k.peq x then ddel r x else (k, v) :: ddel r x
def dkeys (kvs : List (D × D)) : List D := kvs.map (·.1)
/-- plain signs alone -/
def asc (s : List Nat) : Bool := s.all fun c => decide (c < 128)
abbrev Env := List (Option D)
def get (s : Env) (i : Nat) : Option D := s.getD i none
/-- an exception: its class, its fields -/
inductive X where
  | mk (c : Nat) (fs : List (Nat × D))
inductive R (α : Type) where
  | ok (a : α) (s : Env) | exc (x : X) (s : Env) | bad
def R.bind {α β : Type} (r : R α) (f : α → Env → R β) : R β :=
  match r with
  | .ok a s => f a s
  | .exc x s => .exc x s
  | .bad => .bad
@[simp] theorem bind_ok {α β : Type} (a : α) (s : Env) (f : α → Env → R β) : (R.ok a s).bind f = f a s := rfl
@[simp] theorem bind_exc {α β : Type} (x : X) (s : Env) (f : α → Env → R β) : (R.exc x s).bind f = .exc x s := rfl
@[simp] theorem bind_bad {α β : Type} (f : α → Env → R β) : (R.bad : R α).bind f = .bad := rfl
def R.of {α : Type} (o : Option α) (s : Env) : R α :=
  match o with
  | some a => .ok a s
  | none => .bad
@[simp] theorem of_some {α : Type} (a : α) (s : Env) : R.of (some a) s = .ok a s := rfl
@[simp] theorem of_none {α : Type} (s : Env) : R.of (none : Option α) s = .bad := rfl

/-! ### operations by values -/
def SL : Nat := 16777216
def BIG : Nat := 1044388881413152506691752710716624382579964249047383780384233483283953907971557456848826811934997558340890106714439262837987573438185793607263236087851365277945956976543709998340361590134383718314428070011855946226376318839397712745672334684344586617496807908705803704071284048740118609114467977783598029006686938976881787785946905630190260940599579453432823469303026696443059025015972399867714215541693835559885291486318237914434496734087811872639496475100189041349008417061675093668333850551032972088269550769983616369411933015213796825837188091833656751221318492846368125550225998300412344784862595674492194617023806505913245610825731835380087608622102834270197698202313169017678006675195485079921636419370285375124784014907159135459982790513399611551794271106831134090584272884279791554849782954323534517065223269061394905987693002122963395687782878948440616007412945674919823050571642377154816321380631045902916136926708342856440730447899971901781465763473223850267253059899795996090799469201774624817718449867455659250178329070473119433165550807568221846571746373296884912819520317457002440926616910874148385078411929804522981857338977648103126085903001302413467189726673216491511131602920781738033436090243804708340403154190336
inductive U1 where
  | len | all | any | list | tuple | int | neg | not | isNone | notNone | isStr | isTup | isLst | isBool | isInt | isSeq | upper | sorted | rev | sset | lset | dict | items
inductive O2 where
  | add | sub | mul | fdiv | mod | pow | eq | ne | lt | le | gt | ge | isin | notin | is | isnot | ix | get | strip | split | join | min | max
/-- all are truths -/
def truths : List D → Option (List Bool)
  | [] => some []
  | .bl b :: r => (truths r).map (b :: ·)
  | _ => none
def D.isStrB : D → Bool | .str _ => true | _ => false
def D.isTupB : D → Bool | .tup _ => true | _ => false
def D.isLstB : D → Bool | .lst _ _ => true | _ => false
def D.isBoolB : D → Bool | .bl _ => true | _ => false
def D.isIntB : D → Bool | .int _ => true | .bl _ => true | _ => false
def strsOf : List D → Option (List (List Nat))
  | [] => some []
  | .str s :: r => (strsOf r).map (s :: ·)
  | _ => none
def lexb : List Nat → List Nat → Bool
  | [], [] => false
  | [], _ :: _ => true
  | _ :: _, [] => false
  | x :: xs, y :: ys => if x = y then lexb xs ys else decide (x < y)
/-- texts in order -/
def srt (xs : List (List Nat)) : List (List Nat) := xs.mergeSort fun a b => !lexb b a
/-- what is walked -/
def iterOf : D → Option (List D)
  | .lst _ xs => some xs
  | .tup xs => some xs
  | .str s => if s.length ≤ SL then some (s.map fun c => .str [c]) else none
  | .dct _ kvs => some (dkeys kvs)
  | _ => none
def lenOf : D → Option Nat
  | .lst _ xs => some xs.length
  | .tup xs => some xs.length
  | .str s => if s.length ≤ SL then some s.length else none
  | .dct _ kvs => some kvs.length
  | _ => none
mutual
/-- < of data that are alike -/
def D.lt : D → D → Bool
  | .bl a, .bl b => !a && b
  | .int a, .int b => decide (a < b)
  | .str a, .str b => lexb a b
  | .tup a, .tup b => ltL a b
  | .lst _ a, .lst _ b => ltL a b
  | _, _ => false
def ltL : List D → List D → Bool
  | [], [] => false
  | [], _ :: _ => true
  | _ :: _, [] => false
  | x :: xs, y :: ys => if x.peq y then ltL xs ys else x.lt y
end
mutual
/-- may be compared, place by place -/
def D.alk : D → D → Bool
  | .non, .non => true
  | .bl _, .bl _ => true
  | .int _, .int _ => true
  | .str _, .str _ => true
  | .tup a, .tup b => alkL a b
  | .lst _ a, .lst _ b => alkL a b
  | _, _ => false
def alkL : List D → List D → Bool
  | x :: xs, y :: ys => x.alk y && alkL xs ys
  | [], _ => true
  | _ :: _, [] => true
end
def leD (a b : D) : Bool := !(b.lt a)
/-- may be sorted: all alike; all tuples with an item, or none a tuple or None -/
def srtOk (xs : List D) : Bool := decide (depL xs ≤ 64) && (xs.all (fun x => xs.all fun y => x.alk y) && (xs.all (fun x => match x with | .tup (_ :: _) => true | _ => false) || xs.all fun x => match x with | .bl _ => true | .int _ => true | .str _ => true | .lst _ _ => true | _ => false))
def srtD (xs : List D) : Option (List D) := if srtOk xs && decide (xs.length ≤ SL) then some (xs.mergeSort leD) else none
/-- what is sorted by keys -/
def srtK (ks xs : List D) : Option (List D) := if srtOk ks && (decide (xs.length ≤ SL) && (ks.length == xs.length)) then some (((ks.zip xs).mergeSort fun a b => leD a.1 b.1).map (·.2)) else none
/-- each once, in the order of first sight -/
def insN (ks : List (List Nat)) (k : List Nat) : List (List Nat) := if k ∈ ks then ks else ks ++ [k]
def dst (ls : List (List Nat)) : List (List Nat) := ls.foldl insN []
def setD (xs : List D) : Option (List (List Nat)) := (strsOf xs).bind fun ls => if ls.length ≤ 4000 then some (dst ls) else none
/-- pairs, each a tuple -/
def pairsOf : List D → Option (List (D × D))
  | [] => some []
  | .tup [k, v] :: r => (pairsOf r).map ((k, v) :: ·)
  | _ => none
def kAll : List (D × D) → Bool
  | [] => true
  | (k, v) :: r => !(k.kd == 0) && kOk k.kd ((k, v) :: r)
/-- a dict of pairs: later ones win, the place is the first one's -/
def dfold (ps : List (D × D)) : List (D × D) := ps.foldl (fun a p => dput a p.1 p.2) []
def dctOf (xs : List D) : Option D := (pairsOf xs).bind fun ps => if (!ownL xs) && (kAll ps && decide (xs.length ≤ SL)) then some (.dct true (dfold ps)) else none
def itemsOf (kvs : List (D × D)) : List D := kvs.map fun p => .tup [p.1, p.2]
def upc (c : Nat) : Nat := if 97 ≤ c ∧ c ≤ 122 then c - 32 else c
def un1 : U1 → D → Option D
  | .len, d => (lenOf d).map fun (n : Nat) => D.int (n : Int)
  | .all, .lst _ xs => (truths xs).map fun bs => .bl (bs.all id)
  | .any, .lst _ xs => (truths xs).map fun bs => .bl (bs.any id)
  | .list, .lst _ xs => if ownL xs then none else some (.lst true xs)
  | .list, .tup xs => if ownL xs then none else some (.lst true xs)
  | .tuple, .lst _ xs => if ownL xs then none else some (.tup xs)
  | .tuple, .tup xs => if ownL xs then none else some (.tup xs)
  | .int, .int i => some (.int i)
  | .int, .bl b => some (.int (b2i b))
  | .neg, .int i => some (.int (-i))
  | .not, .bl b => some (.bl (!b))
  | .isNone, d => some (.bl (match d with | .non => true | _ => false))
  | .notNone, d => some (.bl (match d with | .non => false | _ => true))
  | .isStr, d => some (.bl d.isStrB)
  | .isTup, d => some (.bl d.isTupB)
  | .isLst, d => some (.bl d.isLstB)
  | .isBool, d => some (.bl d.isBoolB)
  | .isInt, d => some (.bl d.isIntB)
  | .isSeq, d => some (.bl (d.isTupB || d.isLstB))
  | .sset, .lst _ xs => (setD xs).bind fun ks => (srtD (ks.map D.str)).map (.lst true)
  | .sset, .tup xs => (setD xs).bind fun ks => (srtD (ks.map D.str)).map (.lst true)
  | .lset, .lst _ xs => (setD xs).map fun ks => .int ks.length
  | .lset, .tup xs => (setD xs).map fun ks => .int ks.length
  | .sorted, .lst _ xs => if ownL xs then none else (srtD xs).map (.lst true)
  | .sorted, .tup xs => if ownL xs then none else (srtD xs).map (.lst true)
  | .sorted, .dct _ kvs => (srtD (dkeys kvs)).map (.lst true)
  | .list, .dct _ kvs => some (.lst true (dkeys kvs))
  | .dict, .lst _ xs => dctOf xs
  | .dict, .tup xs => dctOf xs
  | .items, .dct _ kvs => if ownP kvs then none else (srtD (itemsOf kvs)).map (.lst true)
  | .rev, .tup xs => if ownL xs then none else some (.tup xs.reverse)
  | .rev, .lst _ xs => if ownL xs then none else some (.lst true xs.reverse)
  | .upper, .str s => if s.length ≤ 5592405 then some (.str (s.map upc)) else none
  | _, _ => none
def mulOk (i j : Int) : Bool := decide (i.natAbs < 18446744073709551616) || (decide (j.natAbs < 18446744073709551616) || (decide (i.natAbs < BIG) && decide (j.natAbs < BIG)))
/-- where an index stands -/
def ixOf (n : Nat) (i : Int) : Option Nat := if 0 ≤ i then (if i < n then some i.toNat else none) else if -(n : Int) ≤ i then some (i + n).toNat else none
def at_ {α : Type} (xs : List α) (i : Int) : Option α := (ixOf xs.length i).bind fun j => xs[j]?
/-- parted at each c -/
def parts (c : Nat) : List Nat → List (List Nat)
  | [] => [[]]
  | x :: xs => if x = c then [] :: parts c xs else match parts c xs with | [] => [[x]] | p :: ps => (x :: p) :: ps
def joined (sep : List Nat) : List (List Nat) → List Nat
  | [] => []
  | [x] => x
  | x :: y :: xs => x ++ (sep ++ joined sep (y :: xs))
def infixB (p : List Nat) : List Nat → Bool
  | [] => p.isEmpty
  | c :: s => p.isPrefixOf (c :: s) || infixB p s
/-- without the signs cs at both ends -/
def stripB (cs s : List Nat) : List Nat := (s.drop (s.takeWhile fun c => cs.contains c).length).take ((s.drop (s.takeWhile fun c => cs.contains c).length).length - ((s.drop (s.takeWhile fun c => cs.contains c).length).reverse.takeWhile fun c => cs.contains c).length)
def inOf (x : D) : D → Option Bool
  | .lst _ ys => if x.dep ≤ 63 ∧ depL ys ≤ 63 then some (ys.any fun y => y.peq x) else none
  | .tup ys => if x.dep ≤ 63 ∧ depL ys ≤ 63 then some (ys.any fun y => y.peq x) else none
  | .str t => match x with | .str p => some (infixB p t) | _ => none
  | .dct _ kvs => if kin kvs x then some (dget kvs x).isSome else none
  | _ => none
def eqOf (x y : D) : Option Bool := if x.dep ≤ 64 ∧ y.dep ≤ 64 then some (x.peq y) else none
def op2 : O2 → D → D → Option D
  | .add, .int i, .int j => some (.int (i + j))
  | .add, .str s, .str t => if s.length + t.length ≤ SL then some (.str (s ++ t)) else none
  | .add, .lst _ xs, .lst _ ys => if ownL xs ∨ ownL ys ∨ SL < xs.length + ys.length then none else some (.lst true (xs ++ ys))
  | .add, .tup xs, .tup ys => if ownL xs ∨ ownL ys ∨ SL < xs.length + ys.length then none else some (.tup (xs ++ ys))
  | .add, .bl b, .int j => some (.int (b2i b + j))
  | .sub, .bl b, .int j => some (.int (b2i b - j))
  | .sub, .int i, .int j => some (.int (i - j))
  | .mul, .int i, .int j => if mulOk i j then some (.int (i * j)) else none
  | .mul, .str s, .int j => if j < 1000000 ∧ -1000000 < j ∧ s.length * j.toNat ≤ SL then some (.str (List.replicate j.toNat s).flatten) else none
  | .mul, .lst _ xs, .int j => if ownL xs = false ∧ j < 1000000 ∧ -1000000 < j ∧ xs.length * j.toNat ≤ SL then some (.lst true (List.replicate j.toNat xs).flatten) else none
  | .fdiv, .int i, .int j => if 0 < j ∧ j < 1073741824 then some (.int (i / j)) else none
  | .mod, .int i, .int j => if 0 < j then some (.int (i % j)) else none
  | .pow, .int i, .int j => if 0 ≤ j ∧ j ≤ 1000000 ∧ i.natAbs < 18446744073709551616 then some (.int (i ^ j.toNat)) else none
  | .eq, x, y => (eqOf x y).map .bl
  | .ne, x, y => (eqOf x y).map fun b => .bl (!b)
  | .lt, .int i, .int j => some (.bl (decide (i < j)))
  | .le, .int i, .int j => some (.bl (decide (i ≤ j)))
  | .gt, .int i, .int j => some (.bl (decide (j < i)))
  | .ge, .int i, .int j => some (.bl (decide (j ≤ i)))
  | .lt, .str i, .str j => some (.bl (lexb i j))
  | .le, .str i, .str j => some (.bl (!lexb j i))
  | .gt, .str i, .str j => some (.bl (lexb j i))
  | .ge, .str i, .str j => some (.bl (!lexb i j))
  | .isin, x, y => (inOf x y).map .bl
  | .notin, x, y => (inOf x y).map fun b => .bl (!b)
  | .is, .bl a, .bl b => some (.bl (decide (a = b)))
  | .isnot, .bl a, .bl b => some (.bl (!decide (a = b)))
  | .ix, .lst _ xs, .int i => at_ xs i
  | .ix, .tup xs, .int i => at_ xs i
  | .ix, .str s, .int i => if s.length ≤ SL then (at_ s i).map fun c => .str [c] else none
  | .ix, .dct _ kvs, x => if kin kvs x then dget kvs x else none
  | .get, .dct _ kvs, x => if kin kvs x then some ((dget kvs x).getD .non) else none
  | .strip, .str s, .str cs => if s.length ≤ SL then some (.str (stripB cs s)) else none
  | .split, .str s, .str [c] => if s.length + 2 ≤ SL then some (.lst true ((parts c s).map .str)) else none
  | .join, .str s, .lst _ xs => (strsOf xs).bind fun ys => if (ys.map List.length).sum + ys.length * s.length ≤ SL then some (.str (joined s ys)) else none
  | .min, .int i, .int j => some (.int (if j < i then j else i))
  | .max, .int i, .int j => some (.int (if j > i then j else i))
  | _, _, _ => none
/-- truth -/
def truD : D → Option Bool
  | .bl b => some b
  | .lst _ xs => some (!xs.isEmpty)
  | .tup xs => some (!xs.isEmpty)
  | _ => none
inductive O3 where
  | getd
def op3 : O3 → D → D → D → Option D
  | .getd, .dct _ kvs, k, z => if kin kvs k then some ((dget kvs k).getD z) else none
  | _, _, _, _ => none
def sIx (n d : Nat) : Option Int → Nat
  | none => d
  | some v => if v < 0 then (v + (n : Int)).toNat else min v.toNat n
def cut {α : Type} (xs : List α) (lo hi : Option Int) : List α := (xs.drop (sIx xs.length 0 lo)).take (sIx xs.length xs.length hi - sIx xs.length 0 lo)
/-- an end of a slice: written or not -/
def endOf : Bool → D → Option (Option Int)
  | false, _ => some none
  | true, .int i => some (some i)
  | true, _ => none
def slice2 (x : D) (l h : Option Int) : Option D := match x with
  | .lst _ xs => if ownL xs then none else some (.lst true (cut xs l h))
  | .tup xs => if ownL xs then none else some (.tup (cut xs l h))
  | .str s => if s.length ≤ SL then some (.str (cut s l h)) else none
  | _ => none
def slice3 (p q : Bool) (x lo hi : D) : Option D := (endOf p lo).bind fun l => (endOf q hi).bind fun h => slice2 x l h
/-- the methods that change a list (or dict) -/
inductive Mu where
  | append | pop | extend | insert | popAt | popD | dpop | getd
/-- whose methods: 1: lists', 2: dicts' -/
def Mu.k : Mu → Nat
  | .popD => 2
  | .dpop => 2
  | .getd => 2
  | _ => 1
def mutate : Mu → D → List D → Option (D × D)
  | .append, .lst true xs, [y] => if xs.length < SL then some (.non, .lst true (xs ++ [y])) else none
  | .pop, .lst true xs, [] => match xs.getLast? with | some y => some (y, .lst true xs.dropLast) | none => none
  | .extend, .lst true xs, [.lst _ ys] => if ownL ys ∨ SL < xs.length + ys.length then none else some (.non, .lst true (xs ++ ys))
  | .extend, .lst true xs, [.tup ys] => if ownL ys ∨ SL < xs.length + ys.length then none else some (.non, .lst true (xs ++ ys))
  | .insert, .lst true xs, [.int i, y] => if xs.length < SL ∧ 0 ≤ i ∧ i < 4611686018427387904 then some (.non, .lst true (xs.take i.toNat ++ y :: xs.drop i.toNat)) else none
  | .dpop, .dct true kvs, [k] => if kin kvs k then (dget kvs k).map fun v => (v, .dct true (ddel kvs k)) else none
  | .popD, .dct true kvs, [k, y] => if kin kvs k then (match dget kvs k with | some v => some (v, .dct true (ddel kvs k)) | none => some (y, .dct true kvs)) else none
  | .getd, .dct o kvs, [k, z] => if kin kvs k then (match dget kvs k with | some v => if v.own then none else some (v, .dct o kvs) | none => some (z, .dct o kvs)) else none
  | .popAt, .lst true xs, [.int i] => (ixOf xs.length i).bind fun j => xs[j]?.map fun y => (y, .lst true (xs.eraseIdx j))
  | _, _, _ => none
/-- 1: a list, 2: a dict -/
def D.knd : D → Nat
  | .lst _ _ => 1
  | .dct _ _ => 2
  | _ => 0
/-- x[k] = y -/
def storeAt : D → D → D → Option D
  | .dct true kvs, k, y => if kin kvs k && decide (kvs.length < SL) then some (.dct true (dput kvs k y)) else none
  | .lst true xs, .int i, y => (ixOf xs.length i).map fun j => .lst true (xs.set j y)
  | _, _, _ => none

/-- x op= y, of numbers and texts -/
def aug2 : O2 → D → D → Option D
  | .add, .int i, .int j => some (.int (i + j))
  | .add, .str s, .str t => if s.length + t.length ≤ SL then some (.str (s ++ t)) else none
  | .sub, .int i, .int j => some (.int (i - j))
  | _, _, _ => none

/-! ### the language -/
mutual
inductive E where
  | c (d : D) | v (i : Nat) | fr (i : Nat) | mov (i : Nat) | val (e : E) | fz (e : E)
  | un (u : U1) (a : E) | op (o : O2) (k : Bool) (a b : E) | slc (k p q : Bool) (a lo hi : E)
  | and (a b : E) | or (a b : E) | ite (c a b : E) | chain (o p : O2) (a b c : E)
  | tup (es : EL) | lst (es : EL) | dnew | orv (a b : E) | op3 (o : O3) (a b c : E)
  | call (f : Nat) (as : List (Option Nat)) (es : EL) | mu (m : Mu) (i : Nat) (es : EL)
  | comp (elt : E) (tg : T) (src : Sr) (cnd : E) (own : List Nat)
inductive EL where
  | nil | cons (e : E) (es : EL)
/-- what a loop walks -/
inductive Sr where
  | of (e : E) | rng (a : E) | rng3 (es : EL) | zip (a b : E) | enum (a : E)
/-- a target -/
inductive T where
  | nm (i : Nat) | tp (is : List Nat)
end
inductive S where
  | skip | bad | sst (i : Nat) (p q : Bool) (lo hi e : E) | asg (i : Nat) (e : E) | unp (is : List Nat) (e : E) | st (i : Nat) (k e : E) | aug (i : Nat) (o : O2) (e : E)
  | ex (e : E) | ret (e : E) | seq (a b : S) | ite (c : E) (a b : S) | wh (c : E) (b : S) | for (tg : T) (src : Sr) (b : S) | brk | cnt
structure Fn where
  ks : List Bool
  n : Nat
  body : S
inductive CR where
  | ok (d : D) (io : Env) | exc (x : X) (io : Env) | bad
inductive O where
  | nxt (s : Env) | ret (d : D) (s : Env) | brk (s : Env) | cnt (s : Env) | exc (x : X) (s : Env) | bad

def asB : D → Option Bool | .bl b => some b | _ => none
def asI : D → Option Int | .int b => some b | _ => none
/-- the slots are what they were -/
def restore (old s : Env) : List Nat → Env
  | [] => s
  | i :: is => (restore old s is).set i (get old i)
def wipe (s : Env) : List Nat → Env
  | [] => s
  | i :: is => (wipe s is).set i none
def assignT : T → D → Env → Option Env
  | .nm i, d, s => some (s.set i (some d))
  | .tp is, .tup xs, s => if is.length = xs.length then some ((is.zip xs).foldl (fun s p => s.set p.1 (some p.2)) s) else none
  | _, _, _ => none
/-- the arguments that are handed in and out are taken from the slots when all others are there -/
def fill : List (Option Nat) → List D → Env → Option (List D × Env)
  | [], [], s => some ([], s)
  | none :: as, d :: ds, s => (fill as ds s).map fun (r, s) => (d :: r, s)
  | some i :: as, _ :: ds, s => (get s i).bind fun d => (fill as ds (s.set i none)).map fun (r, s) => (d :: r, s)
  | _, _, _ => none
def back : List (Option Nat) → Env → Env → Env
  | some i :: as, o :: io, s => (back as io s).set i o
  | none :: as, _ :: io, s => back as io s
  | _, _, s => s
def compL (f : D → Env → R (Option D)) : List D → Env → R (List D)
  | [], s => .ok [] s
  | x :: r, s => (f x s).bind fun o s => (compL f r s).bind fun ys s => .ok (o.toList ++ ys) s
/-- lo, lo + c, .. -/
def rangeUp (lo : Int) : Nat → List D
  | 0 => []
  | n + 1 => .int lo :: rangeUp (lo + 1) n
def rangeDown (lo : Int) : Nat → List D
  | 0 => []
  | n + 1 => .int lo :: rangeDown (lo - 1) n
@[irreducible] def rng1 (j : Int) : Option (List D) := if j < 4611686018427387904 ∧ -4611686018427387904 ≤ j then some (rangeUp 0 j.toNat) else none
@[irreducible] def rng3 (a b c : Int) : Option (List D) := if c = -1 ∧ -1000000 ≤ a ∧ a ≤ 1000000 ∧ -1000000 ≤ b ∧ b ≤ 1000000 then some (rangeDown a (a - b).toNat) else none
def zipD (xs ys : List D) : List D := (xs.zip ys).map fun p => .tup [p.1, p.2]
def enumD (k : Int) : List D → List D
  | [] => []
  | x :: xs => .tup [.int k, x] :: enumD (k + 1) xs
mutual
def ev (C : Nat → List D → CR) : E → Env → R D
  | .c d, s => .ok d s
  | .v i, s => R.of (get s i) s
  | .fr i, s => match get s i with
    | some d => .ok d.frz (s.set i (some d.frz))
    | none => .bad
  | .mov i, s => match get s i with
    | some d => .ok d (s.set i none)
    | none => .bad
  | .val e, s => (ev C e s).bind fun d s => if d.own then .bad else .ok d s
  | .fz e, s => (ev C e s).bind fun d s => .ok d.frz s
  | .un u a, s => (ev C a s).bind fun x s => R.of (un1 u x) s
  | .op o k a b, s => (ev C a s).bind fun x s => (ev C b s).bind fun y s => if k && x.own then .bad else R.of (op2 o x y) s
  | .slc k p q a lo hi, s => (ev C a s).bind fun x s => (ev C lo s).bind fun l s => (ev C hi s).bind fun h s => if k && x.own then .bad else R.of (slice3 p q x l h) s
  | .and a b, s => (ev C a s).bind fun x s => match asB x with
    | some true => ev C b s
    | some false => .ok (.bl false) s
    | none => .bad
  | .or a b, s => (ev C a s).bind fun x s => match asB x with
    | some false => ev C b s
    | some true => .ok (.bl true) s
    | none => .bad
  | .ite c a b, s => (ev C c s).bind fun x s => match asB x with
    | some true => ev C a s
    | some false => ev C b s
    | none => .bad
  | .chain o p a b c, s => (ev C a s).bind fun x s => (ev C b s).bind fun y s => if x.own || y.own then .bad else (R.of (op2 o x y) s).bind fun z s => match asB z with
    | some true => (ev C c s).bind fun w s => R.of (op2 p y w) s
    | some false => .ok (.bl false) s
    | none => .bad
  | .tup es, s => (evL C es s).bind fun ds s => .ok (.tup ds) s
  | .lst es, s => (evL C es s).bind fun ds s => .ok (.lst true ds) s
  | .dnew, s => .ok (.dct true []) s
  | .orv a b, s => (ev C a s).bind fun x s => match truD x with
    | some true => .ok x s
    | some false => ev C b s
    | none => .bad
  | .op3 o a b c, s => (ev C a s).bind fun x s => (ev C b s).bind fun y s => (ev C c s).bind fun z s => if x.own || z.own then .bad else R.of (op3 o x y z) s
  | .call f as es, s => (evL C es s).bind fun ds s => match fill as ds s with
    | none => .bad
    | some (ds, s) => match C f ds with
      | .ok d io => .ok d (back as io s)
      | .exc x io => .exc x (back as io s)
      | .bad => .bad
  | .mu m i es, s => match get s i with
    | none => .bad
    | some d0 => if d0.knd = m.k then (evL C es s).bind fun ds s => match get s i with
        | none => .bad
        | some d => match mutate m d ds with
            | some (r, d') => .ok r (s.set i (some d'))
            | none => .bad
      else .bad
  | .comp elt tg src cnd own, s => (evS C src s).bind fun xs s1 => if SL < xs.length then .bad else (compL (fun x s => match assignT tg x (wipe s own) with
      | none => .bad
      | some s => (ev C cnd s).bind fun b s => match asB b with
        | some true => (ev C elt s).bind fun y s => .ok (some y) s
        | some false => .ok none s
        | none => .bad) xs s1).bind fun ys s2 => .ok (.lst true ys) (restore s1 s2 own)
def evL (C : Nat → List D → CR) : EL → Env → R (List D)
  | .nil, s => .ok [] s
  | .cons e es, s => (ev C e s).bind fun d s => (evL C es s).bind fun ds s => .ok (d :: ds) s
def evS (C : Nat → List D → CR) : Sr → Env → R (List D)
  | .of e, s => (ev C e s).bind fun d s => match iterOf d with
    | some xs => if ownL xs then .bad else .ok xs s
    | none => .bad
  | .rng a, s => (ev C a s).bind fun x s => R.of ((asI x).bind rng1) s
  | .rng3 es, s => (evL C es s).bind fun vs s => match vs with
    | [.int i, .int j, .int k] => R.of (rng3 i j k) s
    | _ => .bad
  | .zip a b, s => (ev C a s).bind fun x s => (ev C b s).bind fun y s => match x, y with
    | .lst _ xs, .lst _ ys => if ownL xs || ownL ys then .bad else .ok (zipD xs ys) s
    | .tup xs, .tup ys => if ownL xs || ownL ys then .bad else .ok (zipD xs ys) s
    | _, _ => .bad
  | .enum a, s => (ev C a s).bind fun x s => match x with
    | .str z => if z.length ≤ SL then .ok (enumD 0 (z.map fun c => .str [c])) s else .bad
    | .lst _ xs => if ownL xs then .bad else .ok (enumD 0 xs) s
    | _ => .bad
end
/-- how often a while may turn -/
def W : Nat := 1073741824
def wloop (t : Env → R D) (b : Env → O) : Nat → Env → O
  | 0, _ => .bad
  | n + 1, s => match t s with
    | .ok x s => match asB x with
      | some true => match b s with
        | .nxt s => wloop t b n s
        | .cnt s => wloop t b n s
        | .brk s => .nxt s
        | o => o
      | some false => .nxt s
      | none => .bad
    | .exc x s => .exc x s
    | .bad => .bad
def floop (f : D → Env → O) : List D → Env → O
  | [], s => .nxt s
  | x :: r, s => match f x s with
    | .nxt s => floop f r s
    | .cnt s => floop f r s
    | .brk s => .nxt s
    | o => o
def R.O {α : Type} (r : R α) (f : α → Env → O) : O :=
  match r with
  | .ok a s => f a s
  | .exc x s => .exc x s
  | .bad => .bad
/-- x[lo:hi] = y -/
def storeSl (p q : Bool) (d lo hi y : D) : Option D := (endOf p lo).bind fun l => (endOf q hi).bind fun h => match l, h, d, y with
  | some a, some c, .lst true xs, .lst true ys => if 0 ≤ a ∧ a ≤ c ∧ c < 4611686018427387904 ∧ ownL xs = false ∧ ownL ys = false ∧ xs.length + ys.length ≤ SL then some (.lst true (xs.take a.toNat ++ (ys ++ xs.drop c.toNat))) else none
  | _, _, _, _ => none
def exec (C : Nat → List D → CR) : S → Env → O
  | .skip, s => .nxt s
  | .bad, s => .bad
  | .asg i e, s => (ev C e s).O fun d s => .nxt (s.set i (some d))
  | .sst i p q lo hi e, s => (ev C e s).O fun y s => match get s i with
    | some _ => (ev C lo s).O fun l s => (ev C hi s).O fun h s => match get s i with
      | some d => match storeSl p q d l h y with
        | some d' => .nxt (s.set i (some d'))
        | none => .bad
      | none => .bad
    | none => .bad
  | .unp is e, s => (ev C e s).O fun d s => match assignT (.tp is) d s with
    | some s => .nxt s
    | none => .bad
  | .st i k e, s => (ev C e s).O fun y s => match get s i with
    | some _ => (ev C k s).O fun k s => match get s i with
      | some d => match storeAt d k y with
        | some d' => .nxt (s.set i (some d'))
        | none => .bad
      | none => .bad
    | none => .bad
  | .aug i o e, s => match get s i with
    | some _ => (ev C e s).O fun y s => match get s i with
      | some x => match aug2 o x y with
        | some z => .nxt (s.set i (some z))
        | none => .bad
      | none => .bad
    | none => .bad
  | .ex e, s => (ev C e s).O fun _ s => .nxt s
  | .ret e, s => (ev C e s).O fun d s => .ret d s
  | .seq a b, s => match exec C a s with
    | .nxt s => exec C b s
    | o => o
  | .ite c a b, s => (ev C c s).O fun x s => match asB x with
    | some true => exec C a s
    | some false => exec C b s
    | none => .bad
  | .wh c b, s => wloop (ev C c) (exec C b) W s
  | .for tg src b, s => (evS C src s).O fun xs s => floop (fun x s => match assignT tg x s with
      | some s => exec C b s
      | none => .bad) xs s
  | .brk, s => .brk s
  | .cnt, s => .cnt s
/-- of the parameters those that are handed back -/
def mask : List Bool → Nat → Env → Env
  | [], _, _ => []
  | true :: ks, j, s => get s j :: mask ks (j + 1) s
  | false :: ks, j, s => none :: mask ks (j + 1) s
def fin (ks : List Bool) : O → CR
  | .nxt s => .ok .non (mask ks 0 s)
  | .ret d s => .ok d (mask ks 0 s)
  | .exc x s => .exc x (mask ks 0 s)
  | _ => .bad
def run (P : Nat → Option Fn) : Nat → Nat → List D → CR
  | 0, _, _ => .bad
  | k + 1, f, ds => match P f with
    | none => .bad
    | some fn => if ds.length = fn.ks.length then fin fn.ks (exec (run P k) fn.body (ds.map some ++ List.replicate (fn.n - ds.length) none)) else .bad
end Z

set_option Elab.async false
set_option linter.all false
set_option maxRecDepth 100000
/-! How data lie in the heap; what an evaluation may change. -/
namespace Z
open PySem PySem.Spec PyProof.Rows L2

/-- the written part, the world -/
structure Kw where
  k : PySem.W.Frag
  w : World
instance : Coe Kw PySem.W.Frag := ⟨Kw.k⟩
@[reducible] def _root_.L2.Cx.kw (X : Cx) : Kw := ⟨X.K, X.w⟩

/-! ### dicts -/
mutual
/-- a key as the library has it -/
def D.nk : D → NestedKey
  | .bl b => .num (b2i b)
  | .int i => .num i
  | .str s => .text ⟨s.toArray⟩
  | .tup xs => .tup (nkL xs)
  | .non => .none
  | .lst _ _ => .none
  | .dct _ _ => .none
  | .set _ _ => .none
  | .ins _ _ _ => .none
def nkL : List D → List NestedKey
  | [] => []
  | d :: r => d.nk :: nkL r
end
abbrev Z3 := NestedKey × V × V
/-- an entry of a dict: its key's hash, its key, its value -/
def EntD (w : World) (z : Z3) (e : DictEntry) : Prop := e.hash = z.1.hash w ∧ RelV z.2.1 e.key ∧ RelV z.2.2 e.val
structure DOk (w : World) (o : Obj) (a : Addr) (zs : List Z3) : Prop where
  ex : o.ExactDict
  es : ∃ es ep, o.data = .dict es ep ∧ Paired (EntD w) zs es.toList
  nd : (zs.map (·.1)).Nodup
  sm : (a == sysModules) = false
  sz : zs.length ≤ sizeLine
/-- just this object -/
def DO (a : Addr) (o : Obj) : HO := .ext fun h => h.get? a = some o

/-- a tuple of whose object all is known: no attributes of its own -/
structure TP (K : Kw) (F : Hp) (a : Addr) (vs : List V) : Prop where
  t : SqT K F a vs
  p : ∃ o, (K.k.lookup a = some o ∨ ∃ u, F a = some (.frz o u)) ∧ o.cls = .type "tuple" ∧ o.dict = none
theorem TP.of {K : Kw} {F : Hp} {a : Addr} {vs : List V} {o : Obj} (h : F a = some (.frz o (.tup vs))) (hc : o.cls = .type "tuple") (hd : o.dict = none) : TP K F a vs := ⟨.inl (.inr ⟨o, h⟩), o, .inr ⟨_, h⟩, hc, hd⟩
/-! how data lie: F is what never changes, H the heap, the list the owned objects -/
mutual
inductive Rep (K : Kw) (F H : Hp) : V → D → List Addr → Prop
  | non : Rep K F H .non .non []
  | bl (b : Bool) : Rep K F H (.bl b) (.bl b) []
  | int (i : Int) : Rep K F H (.int i) (.int i) []
  | str (s : List Nat) : asc s = true → Rep K F H (.str ⟨s.toArray⟩) (.str s) []
  | tup {a : Addr} {vs : List V} {ds : List D} {fp : List Addr} : TP K F a vs → Reps K F H vs ds fp → Rep K F H (.ref a) (.tup ds) fp
  | lstF {a : Addr} {vs : List V} {ds : List D} : SqL K F a vs → Reps K F H vs ds [] → Rep K F H (.ref a) (.lst false ds) []
  | dctF {a : Addr} {o : Obj} {zs : List Z3} {ds : List (D × D)} : F a = some (DO a o) → DOk K.w o a zs → PReps K F H (zs.map (·.2)) ds [] → zs.map (·.1) = ds.map (·.1.nk) → (∃ n, n ≠ 0 ∧ kOk n ds = true) → Rep K F H (.ref a) (.dct false ds) []
  | dctO {a : Addr} {o : Obj} {zs : List Z3} {ds : List (D × D)} {fp : List Addr} : H a = some (DO a o) → F a = none → DOk K.w o a zs → PReps K F H (zs.map (·.2)) ds fp → zs.map (·.1) = ds.map (·.1.nk) → (∃ n, n ≠ 0 ∧ kOk n ds = true) → a ∉ fp → Rep K F H (.ref a) (.dct true ds) (a :: fp)
  | lstO {a : Addr} {vs : List V} {ds : List D} {fp : List Addr} : H a = some (.lst vs) → F a = none → Reps K F H vs ds fp → a ∉ fp → Rep K F H (.ref a) (.lst true ds) (a :: fp)
inductive Reps (K : Kw) (F H : Hp) : List V → List D → List Addr → Prop
  | nil : Reps K F H [] [] []
  | cons {v : V} {d : D} {vs : List V} {ds : List D} {fp fq : List Addr} : Rep K F H v d fp → Reps K F H vs ds fq → (∀ a ∈ fp, a ∉ fq) → Reps K F H (v :: vs) (d :: ds) (fp ++ fq)
inductive PReps (K : Kw) (F H : Hp) : List (V × V) → List (D × D) → List Addr → Prop
  | nil : PReps K F H [] [] []
  | cons {k v : V} {kd d : D} {vs : List (V × V)} {ds : List (D × D)} {fp fq : List Addr} : Rep K F H k kd [] → Rep K F H v d fp → PReps K F H vs ds fq → (∀ a ∈ fp, a ∉ fq) → PReps K F H ((k, v) :: vs) ((kd, d) :: ds) (fp ++ fq)
end
mutual
theorem hs_frz : ∀ d : D, d.hs = true → d.frz = d
  | .non, _ => rfl
  | .bl _, _ => rfl
  | .int _, _ => rfl
  | .str _, _ => rfl
  | .tup xs, h => by
    simp only [D.frz]
    rw [hsL_frz xs (by simpa [D.hs] using h)]
  | .lst _ _, h => by simp [D.hs] at h
  | .dct _ _, h => by simp [D.hs] at h
  | .set _ _, h => by simp [D.hs] at h
  | .ins _ _ _, h => by simp [D.hs] at h
theorem hsL_frz : ∀ xs : List D, hsL xs = true → frzL xs = xs
  | [], _ => rfl
  | d :: r, h => by
    simp only [hsL, Bool.and_eq_true] at h
    simp only [frzL]
    rw [hs_frz d h.1, hsL_frz r h.2]
end
theorem kd_hs {d : D} (h : d.kd ≠ 0) : d.hs = true := by
  cases d <;> (try (simp [D.kd] at h; done))
  · rfl
  · rename_i xs
    simp only [D.kd] at h
    split at h
    · rename_i q
      rw [Bool.and_eq_true] at q
      simpa [D.hs] using q.1
    · exact absurd rfl h
theorem kd_frz {d : D} (h : d.kd ≠ 0) : d.frz = d := hs_frz d (kd_hs h)
theorem kOk_frz {n : Nat} (hn : n ≠ 0) : ∀ ds : List (D × D), kOk n ds = true → kOk n (frzP ds) = true ∧ (frzP ds).map (·.1.nk) = ds.map (·.1.nk)
  | [], _ => ⟨rfl, rfl⟩
  | (k, v) :: r, h => by
    simp only [kOk, List.all_cons, Bool.and_eq_true, beq_iff_eq] at h
    obtain ⟨h1, h2⟩ := kOk_frz hn r (by unfold kOk; exact h.2)
    have e : k.frz = k := kd_frz (by rw [h.1]; exact hn)
    simp only [frzP, kOk, List.all_cons, Bool.and_eq_true, beq_iff_eq, List.map_cons, e]
    exact ⟨⟨h.1, h1⟩, by rw [h2]⟩

section
variable {K : Kw} {F H F' H' : Hp}
theorem rd_mono {a : Addr} {u : HO} (h : Rd F a u) (m : ∀ a o, F a = some o → F' a = some o) : Rd F' a u := by
  rcases h with h | ⟨o, h⟩
  · exact .inl (m _ _ h)
  · exact .inr ⟨o, m _ _ h⟩
theorem sqL_mono {a : Addr} {xs : List V} (h : SqL K F a xs) (m : ∀ a o, F a = some o → F' a = some o) : SqL K F' a xs := by
  rcases h with h | h
  · exact .inl (rd_mono h m)
  · exact .inr h
theorem sqT_mono {a : Addr} {xs : List V} (h : SqT K F a xs) (m : ∀ a o, F a = some o → F' a = some o) : SqT K F' a xs := by
  rcases h with h | h
  · exact .inl (rd_mono h m)
  · exact .inr h
theorem TP.mono {a : Addr} {xs : List V} (h : TP K F a xs) (m : ∀ a o, F a = some o → F' a = some o) : TP K F' a xs := by
  obtain ⟨o, h1, h2, h3⟩ := h.p
  refine ⟨sqT_mono h.t m, o, ?_, h2, h3⟩
  rcases h1 with h1 | ⟨u, h1⟩
  · exact .inl h1
  · exact .inr ⟨u, m _ _ h1⟩
mutual
theorem Rep.mono (m : ∀ a o, F a = some o → F' a = some o) : ∀ {v : V} {d : D} {fp : List Addr}, Rep K F H v d fp → (∀ a ∈ fp, (∀ o, H a = some o → H' a = some o) ∧ F' a = none) → Rep K F' H' v d fp
  | _, _, _, .non, _ => .non
  | _, _, _, .bl b, _ => .bl b
  | _, _, _, .int i, _ => .int i
  | _, _, _, .str s h, _ => .str s h
  | _, _, _, .tup h hs, k => .tup (h.mono m) (Reps.mono m hs k)
  | _, _, _, .lstF h hs, k => .lstF (sqL_mono h m) (Reps.mono m hs fun _ z => nomatch z)
  | _, _, _, .dctF h ok hs hk q, k => .dctF (m _ _ h) ok (PReps.mono m hs fun _ z => nomatch z) hk q
  | _, _, _, .dctO h hf ok hs hk q hn, k => .dctO ((k _ (List.mem_cons_self)).1 _ h) (k _ List.mem_cons_self).2 ok (PReps.mono m hs fun a ha => k a (List.mem_cons_of_mem _ ha)) hk q hn
  | _, _, _, .lstO h hf hs hn, k => .lstO ((k _ (List.mem_cons_self)).1 _ h) (k _ List.mem_cons_self).2 (Reps.mono m hs fun a ha => k a (List.mem_cons_of_mem _ ha)) hn
theorem Reps.mono (m : ∀ a o, F a = some o → F' a = some o) : ∀ {vs : List V} {ds : List D} {fp : List Addr}, Reps K F H vs ds fp → (∀ a ∈ fp, (∀ o, H a = some o → H' a = some o) ∧ F' a = none) → Reps K F' H' vs ds fp
  | _, _, _, .nil, _ => .nil
  | _, _, _, .cons h hs hd, k => .cons (Rep.mono m h fun a ha => k a (List.mem_append_left _ ha)) (Reps.mono m hs fun a ha => k a (List.mem_append_right _ ha)) hd
theorem PReps.mono (m : ∀ a o, F a = some o → F' a = some o) : ∀ {vs : List (V × V)} {ds : List (D × D)} {fp : List Addr}, PReps K F H vs ds fp → (∀ a ∈ fp, (∀ o, H a = some o → H' a = some o) ∧ F' a = none) → PReps K F' H' vs ds fp
  | _, _, _, .nil, _ => .nil
  | _, _, _, .cons h0 h hs hd, k => .cons (Rep.mono m h0 fun _ z => nomatch z) (Rep.mono m h fun a ha => k a (List.mem_append_left _ ha)) (PReps.mono m hs fun a ha => k a (List.mem_append_right _ ha)) hd
end
mutual
theorem Rep.frz (m : ∀ a o, F a = some o → F' a = some o) : ∀ {v : V} {d : D} {fp : List Addr}, Rep K F H v d fp → (∀ a ∈ fp, ∀ o, H a = some o → F' a = some o) → Rep K F' H' v d.frz []
  | _, _, _, .non, _ => .non
  | _, _, _, .bl b, _ => .bl b
  | _, _, _, .int i, _ => .int i
  | _, _, _, .str s h, _ => .str s h
  | _, _, _, .tup h hs, k => .tup (h.mono m) (Reps.frz m hs k)
  | _, _, _, .lstF h hs, k => .lstF (sqL_mono h m) (Reps.frz m hs fun _ z => nomatch z)
  | _, _, _, .dctF h ok hs hk ⟨n, q1, q2⟩, k => by
    obtain ⟨e1, e2⟩ := kOk_frz q1 _ q2
    exact .dctF (m _ _ h) ok (PReps.frz m hs fun _ z => nomatch z) (hk.trans e2.symm) ⟨n, q1, e1⟩
  | _, _, _, .dctO h hf ok hs hk ⟨n, q1, q2⟩ hn, k => by
    obtain ⟨e1, e2⟩ := kOk_frz q1 _ q2
    exact .dctF (k _ List.mem_cons_self _ h) ok (PReps.frz m hs fun a ha => k a (List.mem_cons_of_mem _ ha)) (hk.trans e2.symm) ⟨n, q1, e1⟩
  | _, _, _, .lstO h hf hs hn, k => .lstF (SqL.of (k _ List.mem_cons_self _ h)) (Reps.frz m hs fun a ha => k a (List.mem_cons_of_mem _ ha))
theorem Reps.frz (m : ∀ a o, F a = some o → F' a = some o) : ∀ {vs : List V} {ds : List D} {fp : List Addr}, Reps K F H vs ds fp → (∀ a ∈ fp, ∀ o, H a = some o → F' a = some o) → Reps K F' H' vs (frzL ds) []
  | _, _, _, .nil, _ => .nil
  | _, _, _, .cons h hs hd, k => Reps.cons (fp := []) (fq := []) (Rep.frz m h fun a ha => k a (List.mem_append_left _ ha)) (Reps.frz m hs fun a ha => k a (List.mem_append_right _ ha)) (fun _ z => nomatch z)
theorem PReps.frz (m : ∀ a o, F a = some o → F' a = some o) : ∀ {vs : List (V × V)} {ds : List (D × D)} {fp : List Addr}, PReps K F H vs ds fp → (∀ a ∈ fp, ∀ o, H a = some o → F' a = some o) → PReps K F' H' vs (frzP ds) []
  | _, _, _, .nil, _ => .nil
  | _, _, _, .cons h0 h hs hd, k => PReps.cons (fp := []) (fq := []) (Rep.frz m h0 fun _ z => nomatch z) (Rep.frz m h fun a ha => k a (List.mem_append_left _ ha)) (PReps.frz m hs fun a ha => k a (List.mem_append_right _ ha)) (fun _ z => nomatch z)
end
mutual
theorem Rep.noown : ∀ {v : V} {d : D} {fp : List Addr}, Rep K F H v d fp → d.own = false → fp = []
  | _, _, _, .non, _ => rfl
  | _, _, _, .bl b, _ => rfl
  | _, _, _, .int i, _ => rfl
  | _, _, _, .str s _, _ => rfl
  | _, _, _, .tup h hs, e => Reps.noown hs (by simpa [D.own] using e)
  | _, _, _, .lstF h hs, e => rfl
  | _, _, _, .dctF h ok hs hk q, e => rfl
  | _, _, _, .dctO h hf ok hs hk q hn, e => by simp [D.own] at e
  | _, _, _, .lstO h hf hs hn, e => by simp [D.own] at e
theorem Reps.noown : ∀ {vs : List V} {ds : List D} {fp : List Addr}, Reps K F H vs ds fp → ownL ds = false → fp = []
  | _, _, _, .nil, _ => rfl
  | _, _, _, .cons h hs hd, e => by
    simp only [ownL, Bool.or_eq_false_iff] at e
    rw [Rep.noown h e.1, Reps.noown hs e.2]
    rfl
end
/-- an owned object is there, may be written, is not frozen -/
def OwnAt (F H : Hp) (a : Addr) : Prop := F a = none ∧ ∃ o, H a = some o ∧ Mut (some o)
mutual
theorem Rep.own : ∀ {v : V} {d : D} {fp : List Addr}, Rep K F H v d fp → ∀ a ∈ fp, OwnAt F H a
  | _, _, _, .non, _, z => nomatch z
  | _, _, _, .bl b, _, z => nomatch z
  | _, _, _, .int i, _, z => nomatch z
  | _, _, _, .str s _, _, z => nomatch z
  | _, _, _, .tup h hs, a, z => Reps.own hs a z
  | _, _, _, .lstF h hs, _, z => nomatch z
  | _, _, _, .dctF h ok hs hk q, _, z => nomatch z
  | _, _, _, .dctO h hf ok hs hk q hn, a, z => by
    rcases List.mem_cons.mp z with z | z
    · subst z; exact ⟨hf, _, h, trivial⟩
    · exact PReps.own hs a z
  | _, _, _, .lstO h hf hs hn, a, z => by
    rcases List.mem_cons.mp z with z | z
    · subst z; exact ⟨hf, _, h, trivial⟩
    · exact Reps.own hs a z
theorem Reps.own : ∀ {vs : List V} {ds : List D} {fp : List Addr}, Reps K F H vs ds fp → ∀ a ∈ fp, OwnAt F H a
  | _, _, _, .nil, _, z => nomatch z
  | _, _, _, .cons h hs hd, a, z => by
    rcases List.mem_append.mp z with z | z
    · exact Rep.own h a z
    · exact Reps.own hs a z
theorem PReps.own : ∀ {vs : List (V × V)} {ds : List (D × D)} {fp : List Addr}, PReps K F H vs ds fp → ∀ a ∈ fp, OwnAt F H a
  | _, _, _, .nil, _, z => nomatch z
  | _, _, _, .cons h0 h hs hd, a, z => by
    rcases List.mem_append.mp z with z | z
    · exact Rep.own h a z
    · exact PReps.own hs a z
end
theorem Reps.len : ∀ {vs : List V} {ds : List D} {fp : List Addr}, Reps K F H vs ds fp → vs.length = ds.length
  | _, _, _, .nil => rfl
  | _, _, _, .cons _ hs _ => by rw [List.length_cons, List.length_cons, hs.len]
/-- without owned objects the heap does not matter -/
theorem Rep.still {v : V} {d : D} (h : Rep K F H v d []) (m : ∀ a o, F a = some o → F' a = some o) : Rep K F' H' v d [] := h.mono m fun _ z => nomatch z
theorem Reps.still {vs : List V} {ds : List D} (h : Reps K F H vs ds []) (m : ∀ a o, F a = some o → F' a = some o) : Reps K F' H' vs ds [] := h.mono m fun _ z => nomatch z
theorem Reps.at_ : ∀ {vs : List V} {ds : List D} {fp : List Addr} {i : Nat} {d : D}, Reps K F H vs ds fp → ds[i]? = some d → ∃ v fq, vs[i]? = some v ∧ Rep K F H v d fq ∧ ∀ a ∈ fq, a ∈ fp
  | _, _, _, _, _, .nil, e => by simp at e
  | _, _, _, 0, _, .cons h hs hd, e => by
    simp at e; subst e
    exact ⟨_, _, rfl, h, fun a z => List.mem_append_left _ z⟩
  | _, _, _, i + 1, _, .cons h hs hd, e => by
    obtain ⟨v, fq, e1, r, m⟩ := Reps.at_ hs (i := i) (by simpa using e)
    exact ⟨v, fq, by simpa using e1, r, fun a z => List.mem_append_right _ (m a z)⟩
theorem Reps.app : ∀ {vs ws : List V} {ds es : List D} {fp fq : List Addr}, Reps K F H vs ds fp → Reps K F H ws es fq → (∀ a ∈ fp, a ∉ fq) → Reps K F H (vs ++ ws) (ds ++ es) (fp ++ fq)
  | _, _, _, _, _, _, .nil, h2, _ => h2
  | _, _, _, _, _, _, .cons (fp := f1) (fq := f2) h hs hd, h2, k => by
    rw [List.append_assoc]
    refine .cons h (Reps.app hs h2 fun a z => k a (List.mem_append_right _ z)) fun a z y => ?_
    rcases List.mem_append.mp y with y | y
    · exact hd a z y
    · exact k a (List.mem_append_left _ z) y
theorem Reps.app0 {vs ws : List V} {ds es : List D} (h : Reps K F H vs ds []) (h2 : Reps K F H ws es []) : Reps K F H (vs ++ ws) (ds ++ es) [] := Reps.app h h2 (fun _ z => nomatch z)
theorem Reps.cons0 {v : V} {d : D} {vs : List V} {ds : List D} (h : Rep K F H v d []) (h2 : Reps K F H vs ds []) : Reps K F H (v :: vs) (d :: ds) [] := Reps.cons (fp := []) (fq := []) h h2 (fun _ z => nomatch z)
theorem Reps.inv0 {v : V} {d : D} {vs : List V} {ds : List D} (h : Reps K F H (v :: vs) (d :: ds) []) : Rep K F H v d [] ∧ Reps K F H vs ds [] := by
  generalize e : ([] : List Addr) = fp at h
  cases h with
  | cons h hs hd =>
    obtain ⟨e1, e2⟩ := List.append_eq_nil_iff.mp e.symm
    subst e1 e2
    exact ⟨h, hs⟩
theorem Reps.drop0 : ∀ {vs : List V} {ds : List D} (n : Nat), Reps K F H vs ds [] → Reps K F H (vs.drop n) (ds.drop n) []
  | _, _, 0, h => h
  | [], [], _ + 1, _ => .nil
  | v :: vs, d :: ds, n + 1, h => Reps.drop0 n h.inv0.2
  | [], d :: ds, _, h => by have := h.len; simp at this
  | v :: vs, [], _, h => by have := h.len; simp at this
theorem Reps.take0 : ∀ {vs : List V} {ds : List D} (n : Nat), Reps K F H vs ds [] → Reps K F H (vs.take n) (ds.take n) []
  | _, _, 0, h => .nil
  | [], [], _ + 1, _ => .nil
  | v :: vs, d :: ds, n + 1, h => Reps.cons0 h.inv0.1 (Reps.take0 n h.inv0.2)
  | [], d :: ds, _, h => by have := h.len; simp at this
  | v :: vs, [], _, h => by have := h.len; simp at this
end
end Z

set_option Elab.async false
set_option linter.all false
set_option maxRecDepth 100000
namespace Z
open PySem PySem.Spec PyProof.Rows L2

abbrev Fps := Nat → List Addr
structure Rel (K : Kw) (F H : Hp) (σ : L2.St) (s : Env) (fps : Fps) : Prop where
  sub : ∀ a o, F a = some o → H a = some o
  len : s.length = σ.length
  rep : ∀ i d, get s i = some d → ∃ v, σ[i]? = some (some v) ∧ Rep K F H v d (fps i)
  nil : ∀ i, get s i = none → fps i = []
  dis : ∀ i j, i ≠ j → ∀ a ∈ fps i, a ∉ fps j
/-- what an evaluation may change: the owned objects of the slots mv -/
structure Stp (mv : List Nat) (F H : Hp) (s : Env) (fps : Fps) (F' H' : Hp) (s' : Env) (fps' : Fps) : Prop where
  f : ∀ a o, F a = some o → F' a = some o
  h : ∀ a o, H a = some o → (∀ j ∈ mv, a ∉ fps j) → H' a = some o
  nf : ∀ a, F' a ≠ none → F a ≠ none ∨ H a = none ∨ ∃ j ∈ mv, a ∈ fps j
  u : ∀ j ∈ mv, ∀ a ∈ fps' j, H a = none ∨ ∃ i ∈ mv, a ∈ fps i
  o : ∀ j, j ∉ mv → get s' j = get s j ∧ fps' j = fps j
  d : ∀ a, H' a = none → H a = none
/-- a result: what it owns lies in the slots vw, or is its own -/
structure Res (K : Kw) (mv vw : List Nat) (H : Hp) (fps : Fps) (F' H' : Hp) (fps' : Fps) (v : V) (d : D) (fp : List Addr) : Prop where
  rep : Rep K F' H' v d fp
  fr : ∀ a ∈ fp, (∃ j ∈ vw, a ∈ fps' j) ∨ ((∀ j, a ∉ fps' j) ∧ (H a = none ∨ ∃ j ∈ mv, a ∈ fps j))
structure Ext (F H F' H' : Hp) : Prop where
  sub : ∀ a o, F' a = some o → H' a = some o
  f : ∀ a o, F a = some o → F' a = some o
  h : ∀ a o, H a = some o → H' a = some o
  nf : ∀ a, F' a ≠ none → F a ≠ none ∨ H a = none

section
variable {K : Kw} {F H F' H' F1 H1 F2 H2 : Hp} {σ : L2.St} {s s' s1 s2 : Env} {fps fps' fps1 fps2 : Fps} {mv mv1 mv2 vw : List Nat} {v : V} {d : D} {fp : List Addr}
theorem Stp.refl : Stp mv F H s fps F H s fps := ⟨fun _ _ e => e, fun _ _ e _ => e, fun _ e => .inl e, fun j hj a ha => .inr ⟨j, hj, ha⟩, fun _ _ => ⟨rfl, rfl⟩, fun _ e => e⟩
theorem Stp.back (A : Stp mv1 F H s fps F1 H1 s1 fps1) {j : Nat} {a : Addr} (ha : a ∈ fps1 j) : H a = none ∨ (∃ i ∈ mv1, a ∈ fps i) ∨ (j ∉ mv1 ∧ a ∈ fps j) := by
  by_cases hj : j ∈ mv1
  · rcases A.u j hj a ha with q | q
    · exact .inl q
    · exact .inr (.inl q)
  · rw [(A.o j hj).2] at ha
    exact .inr (.inr ⟨hj, ha⟩)
theorem Stp.trans (A : Stp mv1 F H s fps F1 H1 s1 fps1) (B : Stp mv2 F1 H1 s1 fps1 F2 H2 s2 fps2) : Stp (mv1 ++ mv2) F H s fps F2 H2 s2 fps2 where
  f := fun a o e => B.f a o (A.f a o e)
  h := fun a o e k => B.h a o (A.h a o e fun j hj => k j (List.mem_append_left _ hj)) fun j hj ha => by
    rcases A.back ha with q | ⟨i, hi, q⟩ | ⟨_, q⟩
    · rw [e] at q; cases q
    · exact k i (List.mem_append_left _ hi) q
    · exact k j (List.mem_append_right _ hj) q
  nf := fun a e => by
    rcases B.nf a e with q | q | ⟨j, hj, q⟩
    · rcases A.nf a q with q | q | ⟨j, hj, q⟩
      · exact .inl q
      · exact .inr (.inl q)
      · exact .inr (.inr ⟨j, List.mem_append_left _ hj, q⟩)
    · exact .inr (.inl (A.d a q))
    · rcases A.back q with q | ⟨i, hi, q⟩ | ⟨_, q⟩
      · exact .inr (.inl q)
      · exact .inr (.inr ⟨i, List.mem_append_left _ hi, q⟩)
      · exact .inr (.inr ⟨j, List.mem_append_right _ hj, q⟩)
  u := fun j hj a ha => by
    rcases B.back ha with q | ⟨i, hi, q⟩ | ⟨hn, q⟩
    · exact .inl (A.d a q)
    · rcases A.back q with q | ⟨k, hk, q⟩ | ⟨_, q⟩
      · exact .inl q
      · exact .inr ⟨k, List.mem_append_left _ hk, q⟩
      · exact .inr ⟨i, List.mem_append_right _ hi, q⟩
    · rcases A.back q with q | ⟨k, hk, q⟩ | ⟨_, q⟩
      · exact .inl q
      · exact .inr ⟨k, List.mem_append_left _ hk, q⟩
      · exact .inr ⟨j, hj, q⟩
  o := fun j hj => by
    have h1 := A.o j fun z => hj (List.mem_append_left _ z)
    have h2 := B.o j fun z => hj (List.mem_append_right _ z)
    exact ⟨h2.1.trans h1.1, h2.2.trans h1.2⟩
  d := fun a e => A.d a (B.d a e)
theorem Stp.weak (A : Stp mv1 F H s fps F1 H1 s1 fps1) (m : ∀ j ∈ mv1, j ∈ mv2) : Stp mv2 F H s fps F1 H1 s1 fps1 where
  f := A.f
  h := fun a o e k => A.h a o e fun j hj => k j (m j hj)
  nf := fun a e => by
    rcases A.nf a e with q | q | ⟨j, hj, q⟩
    · exact .inl q
    · exact .inr (.inl q)
    · exact .inr (.inr ⟨j, m j hj, q⟩)
  u := fun j hj a ha => by
    rcases A.back ha with q | ⟨i, hi, q⟩ | ⟨_, q⟩
    · exact .inl q
    · exact .inr ⟨i, m i hi, q⟩
    · exact .inr ⟨j, hj, q⟩
  o := fun j hj => A.o j fun z => hj (m j z)
  d := A.d
/-- no slot vw among mv -/
def disj (vw mv : List Nat) : Bool := vw.all fun i => !mv.contains i
theorem disj_not {vw mv : List Nat} (h : disj vw mv = true) {i : Nat} (hi : i ∈ vw) : i ∉ mv := by
  have q := List.all_eq_true.mp h i hi
  simpa using q
/-- what a later evaluation leaves of a result -/
theorem Res.on (R : Rel K F1 H1 σ s1 fps1) (r : Res K mv1 vw H fps F1 H1 fps1 v d fp) (B : Stp mv2 F1 H1 s1 fps1 F2 H2 s2 fps2) (hk : disj vw mv2 = true ∨ d.own = false) : Res K (mv1 ++ mv2) vw H fps F2 H2 fps2 v d fp := by
  rcases hk with hk | hk
  · have apart : ∀ a ∈ fp, ∀ i ∈ mv2, a ∉ fps1 i := fun a ha i hi z => by
      rcases r.fr a ha with ⟨j, hj, q⟩ | ⟨q, _⟩
      · exact R.dis j i (fun e => disj_not hk hj (e ▸ hi)) a q z
      · exact q i z
    have keep : ∀ a ∈ fp, (∀ o, H1 a = some o → H2 a = some o) ∧ F2 a = none := fun a ha => by
      obtain ⟨hf, o, ho, _⟩ := r.rep.own a ha
      refine ⟨fun o e => B.h a o e (apart a ha), ?_⟩
      cases e : F2 a with
      | none => rfl
      | some w =>
        rcases B.nf a (by rw [e]; exact Option.some_ne_none _) with q | q | ⟨j, hj, q⟩
        · exact absurd hf q
        · rw [ho] at q; cases q
        · exact absurd q (apart a ha j hj)
    refine ⟨r.rep.mono B.f keep, fun a ha => ?_⟩
    rcases r.fr a ha with ⟨j, hj, q⟩ | ⟨q, w⟩
    · refine .inl ⟨j, hj, ?_⟩
      rw [(B.o j (disj_not hk hj)).2]
      exact q
    · refine .inr ⟨fun j z => ?_, ?_⟩
      · rcases B.back z with y | ⟨i, hi, y⟩ | ⟨_, y⟩
        · obtain ⟨_, o, ho, _⟩ := r.rep.own a ha
          rw [ho] at y; cases y
        · exact q i y
        · exact q j y
      · rcases w with w | ⟨j, hj, w⟩
        · exact .inl w
        · exact .inr ⟨j, List.mem_append_left _ hj, w⟩
  · have e := r.rep.noown hk
    subst e
    exact ⟨r.rep.still B.f, fun a z => nomatch z⟩
theorem Ext.refl (h : ∀ a o, F a = some o → H a = some o) : Ext F H F H := ⟨h, fun _ _ e => e, fun _ _ e => e, fun _ e => .inl e⟩
theorem Ext.own {p : Addr} {o : HO} (h : ∀ a o, F a = some o → H a = some o) (hp : H p = none) : Ext F H F (upd H p o) := by
  refine ⟨fun a u e => ?_, fun _ _ e => e, fun a u e => ?_, fun _ e => .inl e⟩
  · rw [upd_ne (ne_of_none (h a u e) hp)]; exact h a u e
  · rw [upd_ne (ne_of_none e hp)]; exact e
theorem Ext.frz {p : Addr} {o : HO} (h : ∀ a o, F a = some o → H a = some o) (hp : H p = none) : Ext F H (upd F p o) (upd H p o) := by
  refine ⟨fun a u e => ?_, fun a u e => ?_, fun a u e => ?_, fun a e => ?_⟩
  · by_cases q : a = p
    · subst q; rw [upd_same] at e ⊢; exact e
    · rw [upd_ne q] at e ⊢; exact h a u e
  · rw [upd_ne (ne_of_none (h a u e) hp)]; exact e
  · rw [upd_ne (ne_of_none e hp)]; exact e
  · by_cases q : a = p
    · subst q; exact .inr hp
    · rw [upd_ne q] at e; exact .inl e
theorem Ext.trans (A : Ext F H F1 H1) (B : Ext F1 H1 F2 H2) : Ext F H F2 H2 := ⟨B.sub, fun a o e => B.f a o (A.f a o e), fun a o e => B.h a o (A.h a o e), fun a e => by
  rcases B.nf a e with q | q
  · exact A.nf a q
  · refine .inr ?_
    cases w : H a with
    | none => rfl
    | some o => rw [A.h a o w] at q; cases q⟩
theorem Ext.stp (x : Ext F H F' H') : Stp mv F H s fps F' H' s fps := ⟨x.f, fun a o e _ => x.h a o e, fun a e => by
  rcases x.nf a e with q | q
  · exact .inl q
  · exact .inr (.inl q), fun j hj a ha => .inr ⟨j, hj, ha⟩, fun _ _ => ⟨rfl, rfl⟩, fun a e => by
    cases w : H a with
    | none => rfl
    | some o => rw [x.h a o w] at e; cases e⟩
theorem Ext.keep (x : Ext F H F' H') {a : Addr} (h : OwnAt F H a) : (∀ o, H a = some o → H' a = some o) ∧ F' a = none := by
  obtain ⟨hf, o, ho, _⟩ := h
  refine ⟨fun o e => x.h a o e, ?_⟩
  cases e : F' a with
  | none => rfl
  | some w =>
    rcases x.nf a (by rw [e]; exact Option.some_ne_none _) with q | q
    · exact absurd hf q
    · rw [ho] at q; cases q
theorem Rep.ext (r : Rep K F H v d fp) (x : Ext F H F' H') : Rep K F' H' v d fp := r.mono x.f fun a ha => x.keep (r.own a ha)
theorem Reps.ext {vs : List V} {ds : List D} (r : Reps K F H vs ds fp) (x : Ext F H F' H') : Reps K F' H' vs ds fp := r.mono x.f fun a ha => x.keep (r.own a ha)
theorem Rel.ext (R : Rel K F H σ s fps) (x : Ext F H F' H') : Rel K F' H' σ s fps := ⟨x.sub, R.len, fun i d e => by
  obtain ⟨v, e1, r⟩ := R.rep i d e
  exact ⟨v, e1, r.ext x⟩, R.nil, R.dis⟩
theorem Rel.there (R : Rel K F H σ s fps) {i : Nat} {a : Addr} (ha : a ∈ fps i) : OwnAt F H a := by
  cases e : get s i with
  | none => rw [R.nil i e] at ha; cases ha
  | some d =>
    obtain ⟨v, _, r⟩ := R.rep i d e
    exact r.own a ha
theorem none_of_ext (x : Ext F H F' H') {a : Addr} (h : H' a = none) : H a = none := by
  cases w : H a with
  | none => rfl
  | some o => rw [x.h a o w] at h; cases h
end

/-! ### the readings -/
/-- e does what f says: mv the slots that it may change, vw the slots that its value may lie in -/
def tE (K : Kw) (mv vw : List Nat) (f : Env → R D) : TE := fun σ H Q => ∃ F s fps, Rel K F H σ s fps ∧ match f s with
  | .ok d s' => ∀ v H' F' fps' fp, Rel K F' H' σ s' fps' → Stp mv F H s fps F' H' s' fps' → Res K mv vw H fps F' H' fps' v d fp → Q v H'
  | _ => False
def tT (K : Kw) (mv : List Nat) (f : Env → R D) : TT := fun σ H Q => ∃ F s fps, Rel K F H σ s fps ∧ match f s with
  | .ok d s' => match asB d with
    | some b => ∀ H' F' fps', Rel K F' H' σ s' fps' → Stp mv F H s fps F' H' s' fps' → Q b H'
    | none => False
  | _ => False
theorem pe_imp {X : Cx} {e : Expr} {t t' : TE} (h : PE X e t) (i : ∀ σ H Q, t' σ H Q → t σ H Q) : PE X e t' := ⟨fun pins s σ H Q I q => h.run pins s σ H Q I (i _ _ _ q)⟩
theorem pt_imp {X : Cx} {e : Expr} {t t' : TT} (h : PT X e t) (i : ∀ σ H Q, t' σ H Q → t σ H Q) : PT X e t' := ⟨fun pins s σ H Q I q => h.run pins s σ H Q I (i _ _ _ q)⟩
theorem pw_imp {X : Cx} {e : Expr} {t t' : TT} (h : PW X e t) (i : ∀ σ H Q, t' σ H Q → t σ H Q) : PW X e t' := ⟨fun w pins s σ H Q I q => h.run w pins s σ H Q I (i _ _ _ q)⟩
theorem tE_weak {K : Kw} {mv vw mv' : List Nat} {f : Env → R D} {σ : L2.St} {H : Hp} {Q : VK} (m : ∀ j ∈ mv, j ∈ mv') (h : tE K mv' vw f σ H Q) : tE K mv vw f σ H Q := by
  obtain ⟨F, s, fps, R, h⟩ := h
  try dsimp only at h
  refine ⟨F, s, fps, R, ?_⟩
  cases e : f s with
  | ok d s' =>
    rw [e] at h
    exact fun v H' F' fps' fp R' st rs => h v H' F' fps' fp R' (st.weak m) ⟨rs.rep, fun a ha => by
      rcases rs.fr a ha with q | ⟨q, w⟩
      · exact .inl q
      · refine .inr ⟨q, ?_⟩
        rcases w with w | ⟨j, hj, w⟩
        · exact .inl w
        · exact .inr ⟨j, m j hj, w⟩⟩
  | exc x s' => rw [e] at h; exact h
  | bad => rw [e] at h; exact h

/-- a result by values: what it owns is new, or (vf) lies in the first operand -/
def Give (K : Kw) (vf : Bool) (fp1 : List Addr) (F H : Hp) (d : D) (Q : VK) : Prop :=
  ∀ v H' F' fp, Ext F H F' H' → Rep K F' H' v d fp → (∀ a ∈ fp, H a = none ∨ (vf = true ∧ a ∈ fp1)) → Q v H'
def rU (K : Kw) (g : D → Option D) (vf : Bool) : V → Hp → VK → Prop := fun x H Q => ∃ F d1 fp1 d, (∀ a o, F a = some o → H a = some o) ∧ Rep K F H x d1 fp1 ∧ g d1 = some d ∧ Give K vf fp1 F H d Q
def rO (K : Kw) (g : D → D → Option D) (vf : Bool) : R2 := fun x y H Q => ∃ F d1 fp1 d2 fp2 d, (∀ a o, F a = some o → H a = some o) ∧ Rep K F H x d1 fp1 ∧ Rep K F H y d2 fp2 ∧ g d1 d2 = some d ∧ Give K vf fp1 F H d Q
def rO3 (K : Kw) (g : D → D → D → Option D) (vf : Bool) : V → V → V → Hp → VK → Prop := fun x y z H Q => ∃ F d1 fp1 d2 fp2 d3 fp3 d, (∀ a o, F a = some o → H a = some o) ∧ Rep K F H x d1 fp1 ∧ Rep K F H y d2 fp2 ∧ Rep K F H z d3 fp3 ∧
  g d1 d2 d3 = some d ∧ Give K vf fp1 F H d Q
def vwf (vf : Bool) (vw : List Nat) : List Nat := if vf then vw else []
section
variable {K : Kw} {F0 H0 F H F' H' : Hp} {σ : L2.St} {s s0 : Env} {fps0 fps : Fps} {mv mva mvb mvc vwa vwb vwc : List Nat} {v x : V} {d d1 : D} {fp fp1 : List Addr} {vf : Bool} {Q : VK} {fa fb fc : Env → R D}
theorem give_res (R : Rel K F H σ s fps) (st : Stp mv F0 H0 s0 fps0 F H s fps) (rs : Res K mv vwa H0 fps0 F H fps x d1 fp1)
    (h : ∀ v H' F' fps' fp, Rel K F' H' σ s fps' → Stp mv F0 H0 s0 fps0 F' H' s fps' → Res K mv (vwf vf vwa) H0 fps0 F' H' fps' v d fp → Q v H') : Give K vf fp1 F H d Q := fun v H' F' fp e r k => by
  have st2 := st.trans (e.stp (mv := []) (s := s) (fps := fps))
  rw [List.append_nil] at st2
  refine h v H' F' fps fp (R.ext e) st2 ⟨r, fun a ha => ?_⟩
  rcases k a ha with q | ⟨hv, q⟩
  · refine .inr ⟨fun j z => ?_, .inl (st.d a q)⟩
    obtain ⟨_, o, ho, _⟩ := R.there z
    rw [q] at ho; cases ho
  · rcases rs.fr a q with y | y
    · refine .inl ?_
      unfold vwf
      rw [if_pos hv]
      exact y
    · exact .inr y
theorem Res.later {H1 : Hp} {F1 : Hp} {fps1 : Fps} {s1 : Env} {mv1 mv2 vw : List Nat} (st : Stp mv1 F0 H0 s0 fps0 F1 H1 s1 fps1) (rs : Res K mv2 vw H1 fps1 F H fps v d fp) : Res K (mv1 ++ mv2) vw H0 fps0 F H fps v d fp := ⟨rs.rep, fun a ha => by
  rcases rs.fr a ha with q | ⟨q, w⟩
  · exact .inl q
  · refine .inr ⟨q, ?_⟩
    rcases w with w | ⟨j, hj, w⟩
    · exact .inl (st.d a w)
    · rcases st.back w with y | ⟨i, hi, y⟩ | ⟨_, y⟩
      · exact .inl y
      · exact .inr ⟨i, List.mem_append_left _ hi, y⟩
      · exact .inr ⟨j, List.mem_append_right _ hj, y⟩⟩
theorem tE_un {g : D → Option D} (h : tE K mva (vwf vf vwa) (fun s => (fa s).bind fun x s => R.of (g x) s) σ H Q) : tUn (rU K g vf) (tE K mva vwa fa) σ H Q := by
  obtain ⟨F, s, fps, R, h⟩ := h
  try dsimp only at h
  refine ⟨F, s, fps, R, ?_⟩
  cases ea : fa s with
  | exc x s' => rw [ea] at h; exact h
  | bad => rw [ea] at h; exact h
  | ok d1 s1 =>
    rw [ea] at h
    refine fun x H1 F1 fps1 fp1 R1 st1 rs1 => ?_
    simp only [bind_ok] at h
    cases eg : g d1 with
    | none => rw [eg] at h; exact h.elim
    | some d =>
      rw [eg] at h
      exact ⟨F1, d1, fp1, d, R1.sub, rs1.rep, eg, give_res R1 st1 rs1 h⟩
theorem tE_two {k : Bool} {g : D → D → Option D} (hk : k = true ∨ disj vwa mvb = true)
    (h : tE K (mva ++ mvb) (vwf vf vwa) (fun s => (fa s).bind fun x s => (fb s).bind fun y s => if k && x.own then .bad else R.of (g x y) s) σ H Q) : tOp (rO K g vf) (tE K mva vwa fa) (tE K mvb vwb fb) σ H Q := by
  obtain ⟨F, s, fps, R, h⟩ := h
  try dsimp only at h
  refine ⟨F, s, fps, R, ?_⟩
  cases ea : fa s with
  | exc x s' => rw [ea] at h; exact h
  | bad => rw [ea] at h; exact h
  | ok d1 s1 =>
    rw [ea] at h
    refine fun x H1 F1 fps1 fp1 R1 st1 rs1 => ⟨F1, s1, fps1, R1, ?_⟩
    simp only [bind_ok] at h
    cases eb : fb s1 with
    | exc x s' => rw [eb] at h; exact h
    | bad => rw [eb] at h; exact h
    | ok d2 s2 =>
      rw [eb] at h
      simp only [bind_ok] at h
      refine fun y H2 F2 fps2 fp2 R2 st2 rs2 => ?_
      by_cases hc : (k && d1.own) = true
      · rw [if_pos hc] at h; exact h.elim
      · rw [if_neg hc] at h
        cases eg : g d1 d2 with
        | none => rw [eg] at h; exact h.elim
        | some d =>
          rw [eg] at h
          have rs1' := rs1.on R1 st2 (by
            rcases hk with hk | hk
            · subst hk
              refine .inr ?_
              cases q : d1.own with
              | false => rfl
              | true => rw [q] at hc; exact absurd rfl hc
            · exact .inl hk)
          exact ⟨F2, d1, fp1, d2, fp2, d, R2.sub, rs1'.rep, rs2.rep, eg, give_res R2 (st1.trans st2) rs1' h⟩
end
end Z

set_option Elab.async false
set_option linter.all false
set_option maxRecDepth 100000
namespace Z
open PySem PySem.Spec PyProof.Rows L2

theorem sl_eq : sizeLine = SL := by rw [sizeLine_eq]; rfl
section
variable {K : Kw} {F H : Hp} {v : V} {d : D} {fp : List Addr}
theorem rep_int {i : Int} (h : Rep K F H v (.int i) fp) : v = .int i ∧ fp = [] := by cases h; exact ⟨rfl, rfl⟩
theorem rep_bl {b : Bool} (h : Rep K F H v (.bl b) fp) : v = .bl b ∧ fp = [] := by cases h; exact ⟨rfl, rfl⟩
theorem rep_non (h : Rep K F H v .non fp) : v = .non ∧ fp = [] := by cases h; exact ⟨rfl, rfl⟩
theorem rep_str {s : List Nat} (h : Rep K F H v (.str s) fp) : v = .str (SX.S s) ∧ fp = [] ∧ asc s = true := by cases h; exact ⟨rfl, rfl, by assumption⟩
theorem rep_tup {ds : List D} (m : ∀ a o, F a = some o → H a = some o) (h : Rep K F H v (.tup ds) fp) : ∃ a vs, v = .ref a ∧ TP K F a vs ∧ SqT K H a vs ∧ Reps K F H vs ds fp := by
  cases h with
  | tup h hs => exact ⟨_, _, rfl, h, sqT_mono h.t m, hs⟩
theorem rep_lst {o : Bool} {ds : List D} (m : ∀ a o, F a = some o → H a = some o) (h : Rep K F H v (.lst o ds) fp) : ∃ a vs fq, v = .ref a ∧ SqL K H a vs ∧ Reps K F H vs ds fq ∧ ∀ a ∈ fq, a ∈ fp := by
  cases h with
  | lstF h hs => exact ⟨_, _, [], rfl, sqL_mono h m, hs, fun _ z => z⟩
  | lstO h hf hs hn => exact ⟨_, _, _, rfl, SqL.of h, hs, fun a z => List.mem_cons_of_mem _ z⟩
theorem reps_strs : ∀ {vs : List V} {ss : List (List Nat)} {fp : List Addr}, Reps K F H vs (ss.map .str) fp → vs = (ss.map SX.S).map V.str ∧ fp = [] ∧ ∀ s ∈ ss, asc s = true
  | _, [], _, h => by cases h; exact ⟨rfl, rfl, fun _ z => nomatch z⟩
  | _, s :: ss, _, h => by
    cases h with
    | cons h hs hd =>
      obtain ⟨e1, e2, e5⟩ := rep_str h
      obtain ⟨e3, e4, e6⟩ := reps_strs hs
      subst e1 e2 e3 e4
      exact ⟨rfl, rfl, fun x z => by
        rcases List.mem_cons.mp z with z | z
        · rw [z]; exact e5
        · exact e6 x z⟩
theorem strs_reps : ∀ (ss : List (List Nat)), (∀ s ∈ ss, asc s = true) → Reps K F H ((ss.map SX.S).map V.str) (ss.map .str) []
  | [], _ => .nil
  | s :: ss, h => Reps.cons0 (.str s (h s List.mem_cons_self)) (strs_reps ss fun x z => h x (List.mem_cons_of_mem _ z))
theorem reps_bls : ∀ {vs : List V} {ds : List D} {bs : List Bool} {fp : List Addr}, Reps K F H vs ds fp → truths ds = some bs → vs = bs.map V.bl
  | _, [], bs, _, h, e => by
    cases h
    cases e
    rfl
  | _, .bl b :: ds, bs, _, h, e => by
    cases h with
    | cons h hs hd =>
      obtain ⟨e1, e2⟩ := rep_bl h
      simp only [truths, Option.map_eq_some_iff] at e
      obtain ⟨cs, e3, e4⟩ := e
      subst e1 e4
      rw [reps_bls hs e3]
      rfl
  | _, .non :: _, _, _, _, e => by simp [truths] at e
  | _, .int _ :: _, _, _, _, e => by simp [truths] at e
  | _, .str _ :: _, _, _, _, e => by simp [truths] at e
  | _, .tup _ :: _, _, _, _, e => by simp [truths] at e
  | _, .lst _ _ :: _, _, _, _, e => by simp [truths] at e
  | _, .dct _ _ :: _, _, _, _, e => by simp [truths] at e
  | _, .set _ _ :: _, _, _, _, e => by simp [truths] at e
  | _, .ins _ _ _ :: _, _, _, _, e => by simp [truths] at e
theorem strsOf_eq : ∀ {ds : List D} {ss : List (List Nat)}, strsOf ds = some ss → ds = ss.map .str
  | [], _, e => by cases e; rfl
  | .str s :: ds, ss, e => by
    simp only [strsOf, Option.map_eq_some_iff] at e
    obtain ⟨r, e1, e2⟩ := e
    subst e2
    rw [strsOf_eq e1]
    rfl
  | .non :: _, _, e => by simp [strsOf] at e
  | .bl _ :: _, _, e => by simp [strsOf] at e
  | .int _ :: _, _, e => by simp [strsOf] at e
  | .tup _ :: _, _, e => by simp [strsOf] at e
  | .lst _ _ :: _, _, e => by simp [strsOf] at e
  | .dct _ _ :: _, _, e => by simp [strsOf] at e
  | .set _ _ :: _, _, e => by simp [strsOf] at e
  | .ins _ _ _ :: _, _, e => by simp [strsOf] at e
end

/-! ### == -/
mutual
def D.py : D → PyData
  | .non => .none
  | .bl b => .bool b
  | .int i => .int i
  | .str s => .str (SX.S s)
  | .tup xs => .tuple (pyL xs)
  | .lst _ xs => .list (pyL xs)
  | .dct _ _ => .dict []
  | .set _ _ => .dict []
  | .ins _ _ _ => .dict []
def pyL : List D → List PyData
  | [] => []
  | x :: r => x.py :: pyL r
end
mutual
theorem py_dep : ∀ d : D, d.dep ≤ 900 → d.py.depth = d.dep
  | .non, _ => by simp [D.py, D.dep, PyData.depth]
  | .bl _, _ => by simp [D.py, D.dep, PyData.depth]
  | .int _, _ => by simp [D.py, D.dep, PyData.depth]
  | .str _, _ => by simp [D.py, D.dep, PyData.depth]
  | .tup xs, h => by
    have q := py_depL xs (by simp only [D.dep] at h; omega)
    simp only [D.py, D.dep, PyData.depth, q]
  | .lst _ xs, h => by
    have q := py_depL xs (by simp only [D.dep] at h; omega)
    simp only [D.py, D.dep, PyData.depth, q]
  | .dct _ _, h => by simp [D.dep] at h
  | .set _ _, h => by simp [D.dep] at h
  | .ins _ _ _, h => by simp [D.dep] at h
theorem py_depL : ∀ ds : List D, depL ds ≤ 900 → PyData.depthAll (pyL ds) = depL ds
  | [], _ => by simp [pyL, depL, PyData.depthAll]
  | d :: ds, h => by
    have h1 := py_dep d (by simp only [depL] at h; omega)
    have h2 := py_depL ds (by simp only [depL] at h; omega)
    simp only [pyL, depL, PyData.depthAll, h1, h2]
end
theorem asc_ok {s : List Nat} (h : asc s = true) : PyData.strOk (SX.S s) = true := by
  unfold PyData.strOk
  rw [← Array.all_toList]
  refine List.all_eq_true.mpr fun c hc => ?_
  have q := of_decide_eq_true (List.all_eq_true.mp h c hc)
  exact decide_eq_true (by omega)
section
variable {K : Kw} {F H : Hp}
mutual
theorem Rep.lay : ∀ {v : V} {d : D} {fp : List Addr}, Rep K F H v d fp → d.dep ≤ 900 → d.py.canLay0 = true
  | _, _, _, .non, _ => by simp [D.py, PyData.canLay0]
  | _, _, _, .bl b, _ => by simp [D.py, PyData.canLay0]
  | _, _, _, .int i, _ => by simp [D.py, PyData.canLay0]
  | _, _, _, .str s h, _ => by simp only [D.py, PyData.canLay0]; exact asc_ok h
  | _, _, _, .tup h hs, e => by simp only [D.py, PyData.canLay0]; exact Reps.lay hs (by simp only [D.dep] at e; omega)
  | _, _, _, .lstF h hs, e => by simp only [D.py, PyData.canLay0]; exact Reps.lay hs (by simp only [D.dep] at e; omega)
  | _, _, _, .dctF _ _ _ _ _, e => by simp [D.dep] at e
  | _, _, _, .dctO _ _ _ _ _ _ _, e => by simp [D.dep] at e
  | _, _, _, .lstO h hf hs hn, e => by simp only [D.py, PyData.canLay0]; exact Reps.lay hs (by simp only [D.dep] at e; omega)
theorem Reps.lay : ∀ {vs : List V} {ds : List D} {fp : List Addr}, Reps K F H vs ds fp → depL ds ≤ 900 → PyData.canLayAll0 (pyL ds) = true
  | _, _, _, .nil, _ => by simp [pyL, PyData.canLayAll0]
  | _, _, _, .cons h hs hd, e => by
    simp only [depL] at e
    simp only [pyL, PyData.canLayAll0, Rep.lay h (by omega), Reps.lay hs (by omega), Bool.and_self]
end
theorem Rep.shaped {v : V} {d : D} {fp : List Addr} (r : Rep K F H v d fp) (h : d.dep ≤ 64) : SeqAt.shaped d.py = true := by
  unfold SeqAt.shaped
  rw [r.lay (by omega), py_dep d (by omega), decide_eq_true h]
  rfl
end
mutual
theorem py_eqv : ∀ x y : D, x.dep ≤ 900 → y.dep ≤ 900 → PyData.eqv x.py y.py = x.peq y
  | .non, y, _, h => by cases y <;> first | rfl | (simp [D.dep] at h; done) | simp [D.py, D.peq, PyData.eqv]
  | .bl b, y, _, h => by cases y <;> first | rfl | (simp [D.dep] at h; done) | simp [D.py, D.peq, PyData.eqv, b2i]
  | .int i, y, _, h => by cases y <;> first | rfl | (simp [D.dep] at h; done) | simp [D.py, D.peq, PyData.eqv, b2i]
  | .str s, y, _, h => by
    cases y <;> first | rfl | (simp [D.dep] at h; done) | skip
    · simp only [D.py, D.peq, PyData.eqv]; exact SX.S_beq _ _
  | .tup xs, y, h1, h => by
    cases y with
    | tup ys =>
      simp only [D.py, D.peq, PyData.eqv]
      exact py_eqvL xs ys (by simp only [D.dep] at h1; omega) (by simp only [D.dep] at h; omega)
    | dct _ _ => simp [D.dep] at h
    | set _ _ => simp [D.dep] at h
    | ins _ _ _ => simp [D.dep] at h
    | _ => simp [D.py, D.peq, PyData.eqv]
  | .lst _ xs, y, h1, h => by
    cases y with
    | lst _ ys =>
      simp only [D.py, D.peq, PyData.eqv]
      exact py_eqvL xs ys (by simp only [D.dep] at h1; omega) (by simp only [D.dep] at h; omega)
    | dct _ _ => simp [D.dep] at h
    | set _ _ => simp [D.dep] at h
    | ins _ _ _ => simp [D.dep] at h
    | _ => simp [D.py, D.peq, PyData.eqv]
  | .dct _ _, _, h, _ => by simp [D.dep] at h
  | .set _ _, _, h, _ => by simp [D.dep] at h
  | .ins _ _ _, _, h, _ => by simp [D.dep] at h
theorem py_eqvL : ∀ xs ys : List D, depL xs ≤ 900 → depL ys ≤ 900 → PyData.eqvAll (pyL xs) (pyL ys) = peqL xs ys
  | [], [], _, _ => by simp [pyL, peqL, PyData.eqvAll]
  | [], _ :: _, _, _ => by simp [pyL, peqL, PyData.eqvAll]
  | _ :: _, [], _, _ => by simp [pyL, peqL, PyData.eqvAll]
  | x :: xs, y :: ys, h1, h2 => by
    simp only [pyL, peqL, PyData.eqvAll]
    simp only [depL] at h1 h2
    rw [py_eqv x y (by omega) (by omega), py_eqvL xs ys (by omega) (by omega)]
end
section
variable {K : Kw} {F H : Hp}
mutual
theorem Rep.dp (m : ∀ a o, F a = some o → H a = some o) : ∀ {v : V} {d : D} {fp : List Addr}, Rep K F H v d fp → d.dep ≤ 900 → Dp K H v d.py
  | _, _, _, .non, _ => .non
  | _, _, _, .bl b, _ => .bl b
  | _, _, _, .int i, _ => .int i
  | _, _, _, .str s _, _ => .str _
  | _, _, _, .tup h hs, e => .tup (sqT_mono h.t m) (Reps.dp m hs (by simp only [D.dep] at e; omega))
  | _, _, _, .lstF h hs, e => .lst (sqL_mono h m) (Reps.dp m hs (by simp only [D.dep] at e; omega))
  | _, _, _, .dctF _ _ _ _ _, e => by simp [D.dep] at e
  | _, _, _, .dctO _ _ _ _ _ _ _, e => by simp [D.dep] at e
  | _, _, _, .lstO h hf hs hn, e => .lst (SqL.of h) (Reps.dp m hs (by simp only [D.dep] at e; omega))
theorem Reps.dp (m : ∀ a o, F a = some o → H a = some o) : ∀ {vs : List V} {ds : List D} {fp : List Addr}, Reps K F H vs ds fp → depL ds ≤ 900 → DpAll K H vs (pyL ds)
  | _, _, _, .nil, _ => .nil
  | _, _, _, .cons h hs hd, e => by
    simp only [depL] at e
    exact .cons (Rep.dp m h (by omega)) (Reps.dp m hs (by omega))
end
theorem dep_le64 : ∀ {ds : List D} {n : Nat}, depL ds ≤ n → ∀ d ∈ ds, d.dep ≤ n
  | [], _, _, _, z => nomatch z
  | d :: ds, n, h, e, z => by
    simp only [depL] at h
    rcases List.mem_cons.mp z with z | z
    · subst z; omega
    · exact dep_le64 (by omega) e z
theorem any_py : ∀ {ds : List D} {x : D}, depL ds ≤ 900 → x.dep ≤ 900 → ((pyL ds).any fun z => PyData.eqv z x.py) = ds.any fun z => z.peq x
  | [], _, _, _ => rfl
  | d :: ds, x, h, h2 => by
    simp only [depL] at h
    simp only [pyL, List.any_cons]
    rw [any_py (by omega) h2, py_eqv d x (by omega) h2]
end
end Z

set_option Elab.async false
set_option linter.all false
set_option maxRecDepth 100000
/-! Tuples that are made: their objects are known whole. -/
namespace Z
open PySem PySem.Spec PyProof.Rows L2
abbrev tupO (us : List Value) : Obj := { cls := .type "tuple", data := .seq us.toArray }
section
variable {X : Cx} {pins : List (Addr × Obj)} {σ : L2.St} {F H : Hp} {s : Shared}
theorem tup_new {h' : Heap} {tk : Nat} {p : Addr} {vs : List V} {us : List Value} (I : Inv X pins σ H s) (kp : ∀ b o, s.heap.get? b = some o → h'.get? b = some o) (hle : s.heap.objs.size ≤ p) (z : vs.length ≤ sizeLine) (r : Vals vs us) (e : h'.get? p = some (tupO us)) :
    Inv X pins σ (upd H p (.frz (tupO us) (.tup vs))) { s with heap := h', toks := tk } := I.laid kp hle ⟨e, z, us, r, ⟨_, e, rfl, _, rfl⟩⟩
/-- a tuple display -/
def tTupP (t : TA) : TE := fun σ G Q => t σ G fun vs G1 => vs.length ≤ sizeLine ∧ ∀ p us, G1 p = none → Q (.ref p) (upd G1 p (.frz (tupO us) (.tup vs)))
theorem pe_tupP {es : List Expr} {t : TA} {n : Nat} {pos : Pos} (h : PA X es t) : PE X (.Tuple es n pos) (tTupP t) := by
  refine ⟨fun pp s1 τ G Q J hq => ?_⟩
  refine wpAny_Tuple_spliced (thn (h.run pos pp s1 τ G _ J hq) fun us s2 ⟨vs, G1, J1, r, z, q⟩ => ⟨by rw [← r.length]; exact z, ?_⟩)
  have fr : G1 s2.heap.objs.size = none := J1.hok.fresh (Nat.le_refl _)
  exact ⟨.ref s2.heap.objs.size, _, tup_new (tk := s2.toks) J1 (fun b o e => Heap.get?_push_of_some _ e) (Nat.le_refl _) z r (Heap.get?_push_size _ rfl), rfl, q _ _ fr⟩
/-- t + u -/
def rCatP (K : PySem.W.Frag) : R2 := fun x y G Q => ∃ a b vs ws, x = .ref a ∧ y = .ref b ∧ SqT K G a vs ∧ SqT K G b ws ∧ vs.length + ws.length ≤ sizeLine ∧
  (vs = [] → Q (.ref b) G) ∧ (vs ≠ [] → ws = [] → Q (.ref a) G) ∧ (vs ≠ [] → ws ≠ [] → ∀ p us, G p = none → Q (.ref p) (upd G p (.frz (tupO us) (.tup (vs ++ ws)))))
theorem op_catP : OpR X (binaryOp .Add) (rCatP X.K) := by
  intro pp s1 τ G x y v u Q J rx ry h
  obtain ⟨a, b, vs, ws, rfl, rfl, ha, hb, hz, q0, q1, q2⟩ := h
  cases rx
  cases ry
  obtain ⟨its, r1, p1, _⟩ := J.tuple ha
  obtain ⟨jts, r2, p2, _⟩ := J.tuple hb
  by_cases hv : vs = []
  · subst hv
    cases r1
    exact cat_tup0 p1 p2 ⟨.ref b, G, J, rfl, q0 rfl⟩
  · refine HT.cat_tup p1 p2 (fun z => hv (r1.nil_iff.mp z)) (fun z => ⟨.ref a, G, J, rfl, q1 hv (r2.nil_iff.mp z)⟩) (fun z => ?_) (by rw [← r1.length, ← r2.length]; exact hz)
    exact ⟨.ref s1.heap.objs.size, _, tup_new (tk := s1.toks) J (fun b o e => Heap.get?_push_of_some _ e) (Nat.le_refl _) (by rw [List.length_append]; exact hz) (r1.append r2) (Heap.get?_push_size _ rfl), rfl, q2 hv (fun w => z (r2.nil_iff.mpr w)) _ _ (J.hok.fresh (Nat.le_refl _))⟩
/-- t[lo:hi] -/
def rSlP (K : PySem.W.Frag) : V → Option Int → Option Int → Hp → VK → Prop := fun x lo hi G Q => ∃ a vs, x = .ref a ∧ SqT K G a vs ∧
  (HT.sIx vs.length 0 lo = 0 ∧ HT.sIx vs.length vs.length hi = vs.length → Q (.ref a) G) ∧ (¬ (HT.sIx vs.length 0 lo = 0 ∧ HT.sIx vs.length vs.length hi = vs.length) → ∀ p us, G p = none → Q (.ref p) (upd G p (.frz (tupO us) (.tup (cutV vs lo hi)))))
theorem sl_tupP : SlR X (rSlP X.K) := by
  intro pp s1 τ G x v vl vu lo hi sl Q J rx hs pl pu h
  obtain ⟨a, vs, rfl, hx, q1, q2⟩ := h
  cases rx
  obtain ⟨its, r, ht, hz⟩ := J.tuple hx
  have hn : its.toArray.size = vs.length := by rw [List.size_toArray]; exact r.length.symm
  refine ⟨"tuple", _, PyProof.Rows.slot_tuple_getitem.lookup, ht.typeIs, ?_⟩
  by_cases hw : HT.sIx vs.length 0 lo = 0 ∧ HT.sIx vs.length vs.length hi = vs.length
  · exact getItem_tuple_whole ht hs pl pu (by rw [hn]; exact hw) ⟨.ref a, G, J, rfl, q1 hw⟩
  · refine HT.getItem_tuple_cut ht hs pl pu (by rw [hn]; exact hw) ?_ (by rw [hn]; exact hz)
    rw [hn]
    exact ⟨.ref s1.heap.objs.size, _, tup_new (tk := s1.toks) J (fun b o e => Heap.get?_push_of_some _ e) (Nat.le_refl _) (Nat.le_trans (cutV_length vs lo hi) hz) ((r.drop (HT.sIx vs.length 0 lo)).take (HT.sIx vs.length vs.length hi - HT.sIx vs.length 0 lo)) (Heap.get?_push_size _ rfl), rfl, q2 hw _ _ (J.hok.fresh (Nat.le_refl _))⟩
/-- tuple(l), tuple(t) -/
theorem call_tupP : CallR X (.type "tuple") (fun xs G Q => ∃ p vs, xs = [.ref p] ∧ ((SqL X.K G p vs ∧ ∀ l us, G l = none → Q (.ref l) (upd G l (.frz (tupO us) (.tup vs)))) ∨ (SqT X.K G p vs ∧ Q (.ref p) G))) := by
  intro pp s1 τ G xs us Q J r h
  obtain ⟨p, vs, rfl, h⟩ := h
  obtain ⟨u, rfl, rx⟩ := vals1 r
  cases rx
  rcases h with ⟨hq, q⟩ | ⟨hq, q⟩
  · obtain ⟨its, r', pl, hz⟩ := J.list hq
    have hn := r'.length
    refine call_tuple_list pl.isList (fun h' kp => ?_) (by simp only [List.size_toArray] <;> omega)
    have J1 : Inv X pp τ G { s1 with heap := h' } := J.kept (t' := s1.toks) kp
    exact ⟨.ref h'.objs.size, _, tup_new (s := { s1 with heap := h' }) (h' := h'.push (tupO its)) (tk := s1.toks) J1 (fun b o e => Heap.get?_push_of_some _ e) (Nat.le_refl _) hz r' (Heap.get?_push_size _ rfl), rfl, q _ _ (J1.hok.fresh (Nat.le_refl _))⟩
  · obtain ⟨its, r', pl, hz⟩ := J.tuple hq
    exact call_tuple_same pl ⟨.ref p, G, J, rfl, q⟩
/-- the object of such a tuple -/
theorem TP.obj {a : Addr} {vs : List V} (I : Inv X pins σ H s) (m : ∀ a o, F a = some o → H a = some o) (h : TP X.kw F a vs) : ∃ o n its, s.heap.get? a = some o ∧ o.cls = .type "tuple" ∧ o.dict = none ∧ o.data = .seq (List.toArray its) n ∧ Vals vs its ∧ vs.length ≤ sizeLine := by
  obtain ⟨o, h1, h2, h3⟩ := h.p
  obtain ⟨its, r, ⟨o', e1, e2, n, e3⟩, hz⟩ := I.tuple (sqT_mono h.t m)
  have e : s.heap.get? a = some o := by
    rcases h1 with h1 | ⟨u, h1⟩
    · exact I.kIn a o h1
    · exact (I.hok a _ (m _ _ h1)).1
  rw [e] at e1
  cases e1
  exact ⟨o, n, its, e, h2, h3, e3, r, hz⟩
end
end Z

set_option Elab.async false
set_option linter.all false
set_option maxRecDepth 100000
namespace Z
open PySem PySem.Spec PyProof.Rows L2

section
variable {K : Kw} {F H : Hp} {fp1 : List Addr} {vf : Bool} {d : D} {Q : VK}
theorem give_int {i : Int} (m : ∀ a o, F a = some o → H a = some o) (q : Give K vf fp1 F H (.int i) Q) : Q (.int i) H := q _ _ _ _ (Ext.refl m) (.int i) fun _ z => nomatch z
theorem give_bl {b : Bool} (m : ∀ a o, F a = some o → H a = some o) (q : Give K vf fp1 F H (.bl b) Q) : Q (.bl b) H := q _ _ _ _ (Ext.refl m) (.bl b) fun _ z => nomatch z
theorem give_str {s : List Nat} (m : ∀ a o, F a = some o → H a = some o) (h : asc s = true) (q : Give K vf fp1 F H (.str s) Q) : Q (.str (SX.S s)) H := q _ _ _ _ (Ext.refl m) (.str s h) fun _ z => nomatch z
theorem give_same {v : V} (m : ∀ a o, F a = some o → H a = some o) (r : Rep K F H v d []) (q : Give K vf fp1 F H d Q) : Q v H := q _ _ _ _ (Ext.refl m) r fun _ z => nomatch z
/-- a new list of things that own nothing -/
theorem give_lst {p : Addr} {vs : List V} {ds : List D} (m : ∀ a o, F a = some o → H a = some o) (hp : H p = none) (r : Reps K F H vs ds []) (q : Give K vf fp1 F H (.lst true ds) Q) : Q (.ref p) (upd H p (.lst vs)) := by
  have hf : F p = none := by
    cases e : F p with
    | none => rfl
    | some o => rw [m _ _ e] at hp; cases hp
  refine q _ _ _ _ (Ext.own m hp) (.lstO (fp := []) upd_same hf (r.still fun _ _ e => e) (fun z => nomatch z)) fun a z => ?_
  rcases List.mem_cons.mp z with z | z
  · subst z; exact .inl hp
  · cases z
theorem give_tup {p : Addr} {us : List Value} {vs : List V} {ds : List D} (m : ∀ a o, F a = some o → H a = some o) (hp : H p = none) (r : Reps K F H vs ds []) (q : Give K vf fp1 F H (.tup ds) Q) : Q (.ref p) (upd H p (.frz (tupO us) (.tup vs))) := by
  have x := Ext.frz (o := .frz (tupO us) (.tup vs)) m hp
  exact q _ _ _ _ x (.tup (TP.of upd_same rfl rfl) (r.still x.f)) fun a z => nomatch z
theorem fp_nil {v : V} {fp : List Addr} (r : Rep K F H v d fp) (h : d.own = false) : Rep K F H v d [] := by
  have e := r.noown h
  subst e
  exact r
theorem fps_nil {vs : List V} {ds : List D} {fp : List Addr} (r : Reps K F H vs ds fp) (h : ownL ds = false) : Reps K F H vs ds [] := by
  have e := r.noown h
  subst e
  exact r
theorem own_false {b : Bool} (h : ¬ b = true) : b = false := by cases b <;> simp at h ⊢
theorem asc_app {s t : List Nat} (h : asc s = true) (h2 : asc t = true) : asc (s ++ t) = true := by unfold asc at h h2 ⊢; rw [List.all_append, h, h2]; rfl
theorem asc_mem {s : List Nat} : asc s = true ↔ ∀ c ∈ s, c < 128 := by unfold asc; simp
theorem len_of {a : Addr} {vs : List V} (X : Cx) {pins : List (Addr × Obj)} {σ : L2.St} {s : Shared} (I : Inv X pins σ H s) (h : SqL X.kw H a vs) : vs.length ≤ SL := by
  obtain ⟨_, _, _, z⟩ := I.list h
  rw [← sl_eq]; exact z
end

section
variable {X : Cx}
/-- list + list, of whatever kind -/
def rCatL (K : Kw) : R2 := fun x y H Q => ∃ l b xs zs, x = .ref l ∧ y = .ref b ∧ SqL K H l xs ∧ SqL K H b zs ∧ xs.length + zs.length ≤ sizeLine ∧ ∀ p, H p = none → Q (.ref p) (upd H p (.lst (xs ++ zs)))
theorem op_catL : OpR X (binaryOp .Add) (rCatL X.kw) := by
  intro pins s σ H x y v u Q I rx ry h
  obtain ⟨l, b, xs, zs, rfl, rfl, hH, hB, hz, q⟩ := h
  cases rx
  cases ry
  obtain ⟨its, r, ⟨⟨c, dd, dt, sl⟩, n, e, hc, hd, hdt⟩, _⟩ := I.list hH
  obtain ⟨its2, r2, ⟨⟨c2, dd2, dt2, sl2⟩, n2, e2, hc2, hd2, hdt2⟩, _⟩ := I.list hB
  simp only at hc hd hdt hc2 hd2 hdt2
  subst hc hd hdt hc2 hd2 hdt2
  have h1 := r.length
  have h2 := r2.length
  refine concat_meets ⟨_, e, rfl⟩ ⟨_, e2, rfl⟩ noFill_list_add seq_list_add PySem.F.slot_list_add PySem.F.entry_list_add (PySem.F.args_list_add_2 _ _) (list_addW l b its.toArray its2.toArray n n2 _ _ _ _ (by rw [List.size_toArray, List.size_toArray]; omega)) ⟨e, e2, ?_⟩
  have ea : its.toArray ++ its2.toArray = (its ++ its2).toArray := by simp
  rw [ea]
  exact ⟨.ref _, _, I.lnew (t' := s.toks) (r.append r2) (by rw [List.length_append]; omega), rfl, q _ I.fresh⟩

theorem op_add_bi : OpR X (binaryOp .Add) (fun x y H Q => ∃ (b : Bool) (j : Int), x = .bl b ∧ y = .int j ∧ Q (.int (b2i b + j)) H) := by
  intro pins s σ H x y v u Q I rx ry h
  obtain ⟨b, j, rfl, rfl, q⟩ := h
  cases rx
  obtain ⟨t', rfl⟩ := ry
  exact PySem.IntBool.add_bool_int ⟨.int (b2i b + j), H, I.tok _, ⟨_, rfl⟩, q⟩
theorem op_sub_bi : OpR X (binaryOp .Sub) (fun x y H Q => ∃ (b : Bool) (j : Int), x = .bl b ∧ y = .int j ∧ Q (.int (b2i b - j)) H) := by
  intro pins s σ H x y v u Q I rx ry h
  obtain ⟨b, j, rfl, rfl, q⟩ := h
  cases rx
  obtain ⟨t', rfl⟩ := ry
  exact PySem.IntBool.sub_bool_int ⟨.int (b2i b - j), H, I.tok _, ⟨_, rfl⟩, q⟩
theorem or_add : OpR X (binaryOp .Add) (rO X.kw (op2 .add) false) := by
  intro pins s σ H x y v u Q I rx ry h
  obtain ⟨F, d1, fp1, d2, fp2, d, m, r1, r2, e, q⟩ := h
  cases d1 <;> cases d2 <;> simp only [op2, reduceCtorEq] at e
  · obtain ⟨rfl, _⟩ := rep_bl r1
    obtain ⟨rfl, _⟩ := rep_int r2
    cases e
    exact op_add_bi pins s σ H _ _ v u Q I rx ry ⟨_, _, rfl, rfl, give_int m q⟩
  · obtain ⟨rfl, _⟩ := rep_int r1
    obtain ⟨rfl, _⟩ := rep_int r2
    cases e
    exact op_add pins s σ H _ _ v u Q I rx ry ⟨_, _, rfl, rfl, give_int m q⟩
  · rename_i s1 s2
    obtain ⟨rfl, _, a1⟩ := rep_str r1
    obtain ⟨rfl, _, a2⟩ := rep_str r2
    by_cases hl : s1.length + s2.length ≤ SL
    · rw [if_pos hl] at e
      cases e
      exact op_add_str pins s σ H _ _ v u Q I rx ry ⟨_, _, rfl, rfl, by rw [SX.S_len, SX.S_len, sl_eq]; exact hl, by rw [SX.S_cat]; exact give_str m (asc_app a1 a2) q⟩
    · rw [if_neg hl] at e; cases e
  · rename_i xs ys
    by_cases hl : ownL xs = true ∨ ownL ys = true ∨ SL < xs.length + ys.length
    · rw [if_pos hl] at e; cases e
    · rw [if_neg hl] at e
      cases e
      simp only [not_or] at hl
      obtain ⟨h1, h2, h3⟩ := hl
      obtain ⟨a, vs, rfl, t0, t1, p1⟩ := rep_tup m r1
      obtain ⟨b, ws, rfl, t0', t2, p2⟩ := rep_tup m r2
      have p1 := fps_nil p1 (own_false h1)
      have p2 := fps_nil p2 (own_false h2)
      have l1 := p1.len
      have l2 := p2.len
      refine op_catP pins s σ H _ _ v u Q I rx ry ⟨a, b, vs, ws, rfl, rfl, t1, t2, by rw [sl_eq]; omega, fun e => ?_, fun _ e => ?_, fun _ _ p us hp => ?_⟩
      · subst e
        cases xs with
        | nil => exact give_same m (.tup t0' p2) q
        | cons _ _ => simp at l1
      · subst e
        cases ys with
        | nil =>
          rw [List.append_nil] at q
          exact give_same m (.tup t0 p1) q
        | cons _ _ => simp at l2
      · exact give_tup m hp (p1.app0 p2) q
  · rename_i o xs o' ys
    by_cases hl : ownL xs = true ∨ ownL ys = true ∨ SL < xs.length + ys.length
    · rw [if_pos hl] at e; cases e
    · rw [if_neg hl] at e
      cases e
      simp only [not_or] at hl
      obtain ⟨h1, h2, h3⟩ := hl
      obtain ⟨a, vs, fq, rfl, t1, p1, _⟩ := rep_lst m r1
      obtain ⟨b, ws, fq', rfl, t2, p2, _⟩ := rep_lst m r2
      have p1 := fps_nil p1 (own_false h1)
      have p2 := fps_nil p2 (own_false h2)
      have l1 := p1.len
      have l2 := p2.len
      exact op_catL pins s σ H _ _ v u Q I rx ry ⟨a, b, vs, ws, rfl, rfl, t1, t2, by rw [sl_eq]; omega, fun p hp => give_lst m hp (p1.app0 p2) q⟩
theorem or_sub : OpR X (binaryOp .Sub) (rO X.kw (op2 .sub) false) := by
  intro pins s σ H x y v u Q I rx ry h
  obtain ⟨F, d1, fp1, d2, fp2, d, m, r1, r2, e, q⟩ := h
  cases d1 <;> cases d2 <;> simp only [op2, reduceCtorEq] at e
  · obtain ⟨rfl, _⟩ := rep_bl r1
    obtain ⟨rfl, _⟩ := rep_int r2
    cases e
    exact op_sub_bi pins s σ H _ _ v u Q I rx ry ⟨_, _, rfl, rfl, give_int m q⟩
  · obtain ⟨rfl, _⟩ := rep_int r1
    obtain ⟨rfl, _⟩ := rep_int r2
    cases e
    exact op_sub pins s σ H _ _ v u Q I rx ry ⟨_, _, rfl, rfl, give_int m q⟩
theorem big_lt {n : Nat} (h : n < BIG) : n < 2 ^ 4096 := by
  have e : BIG = 2 ^ 4096 := by decide +kernel
  rw [← e]; exact h
theorem foldl_reps : ∀ (n : Nat) (s acc : List Nat), (List.replicate n s.toArray).foldl (· ++ ·) acc.toArray = (acc ++ (List.replicate n s).flatten).toArray
  | 0, s, acc => by simp
  | n + 1, s, acc => by
    rw [List.replicate_succ, List.foldl_cons, List.append_toArray, foldl_reps n s (acc ++ s), List.replicate_succ, List.flatten_cons, List.append_assoc]
theorem asc_reps {s : List Nat} (h : asc s = true) : ∀ n : Nat, asc (List.replicate n s).flatten = true
  | 0 => rfl
  | n + 1 => by
    rw [List.replicate_succ, List.flatten_cons]
    exact asc_app h (asc_reps h n)
theorem op_repS : OpR X (binaryOp .Mult) (fun x y H Q => ∃ (s : List Nat) (j : Int), x = .str ⟨s.toArray⟩ ∧ y = .int j ∧ j < 1000000 ∧ -1000000 < j ∧ s.length * j.toNat ≤ SL ∧ Q (.str ⟨(List.replicate j.toNat s).flatten.toArray⟩) H) := by
  intro pins st σ H x y v u Q I rx ry h
  obtain ⟨s, j, rfl, rfl, h1, h2, h3, q⟩ := h
  obtain ⟨t, rfl⟩ := rx
  obtain ⟨t', rfl⟩ := ry
  have hl : (⟨s.toArray⟩ : Str).length = s.length := rfl
  refine P.mul_str ?_ (fun hn _ => ?_) (fun _ _ => ?_) ?_
  · simp only [Bool.or_eq_false_iff, decide_eq_false_iff_not]
    omega
  · rw [hl]
    have e0 : SL = 16777216 := rfl
    have hj : (j.toNat : Int) = j := by omega
    have h4 : (s.length : Int) * j ≤ 16777216 := by
      have : ((s.length * j.toNat : Nat) : Int) ≤ 16777216 := by omega
      rw [Int.natCast_mul, hj] at this
      exact this
    have : (s.length : Int) ≤ (2 ^ 63 - 1) / j := by
      rw [Int.le_ediv_iff_mul_le (by omega)]
      omega
    omega
  · unfold Builtin.Str.tooLong
    rw [hl]
    simp only [decide_eq_false_iff_not, sl_eq]
    omega
  · by_cases hn : j < 1
    · rw [if_pos hn]
      have e : j.toNat = 0 := by omega
      rw [e] at q
      exact ⟨by rw [sl_eq]; exact Nat.zero_le _, .str ⟨#[]⟩, H, I.tok _, ⟨_, rfl⟩, q⟩
    · rw [if_neg hn]
      by_cases hb : (j == 1 || (⟨s.toArray⟩ : Str).length == 0) = true
      · rw [if_pos hb]
        have e : (List.replicate j.toNat s).flatten = s := by
          rw [hl, Bool.or_eq_true, beq_iff_eq, beq_iff_eq] at hb
          rcases hb with hb | hb
          · subst hb; simp
          · rw [List.length_eq_zero_iff] at hb
            subst hb; simp
        rw [e] at q
        exact ⟨.str ⟨s.toArray⟩, H, I, ⟨_, rfl⟩, q⟩
      · rw [if_neg hb]
        have e := foldl_reps j.toNat s []
        rw [List.nil_append] at e
        have e : (List.replicate j.toNat s.toArray).foldl (· ++ ·) #[] = (List.replicate j.toNat s).flatten.toArray := e
        refine ⟨?_, ?_⟩
        · show (List.foldl (· ++ ·) #[] (List.replicate j.toNat s.toArray)).size ≤ sizeLine
          rw [e, sl_eq, List.size_toArray, List.length_flatten, List.map_replicate, List.sum_replicate_nat, Nat.mul_comm]
          exact h3
        show EP X pins σ Q (.str ⟨(List.replicate j.toNat s.toArray).foldl (· ++ ·) #[]⟩ st.toks) _
        rw [e]
        exact ⟨.str ⟨(List.replicate j.toNat s).flatten.toArray⟩, H, I.tok _, ⟨_, rfl⟩, q⟩
/-- a list times a number -/
theorem op_repL : OpR X (binaryOp .Mult) (fun x y H Q => ∃ l k xs, x = .ref l ∧ y = .int k ∧ SqL X.K H l xs ∧ -(2 ^ 63) ≤ k ∧ k < 2 ^ 63 ∧ xs.length * k.toNat ≤ sizeLine ∧ ∀ p, H p = none → Q (.ref p) (upd H p (.lst (List.replicate k.toNat xs).flatten))) := by
  intro pp s1 τ G x y v u Q J rx ry h
  obtain ⟨l, k, xs, rfl, rfl, hH, h1, h2, hz, q⟩ := h
  cases rx
  obtain ⟨t, rfl⟩ := ry
  obtain ⟨its, r, ⟨ob, n, e, hc, hdd, hdt⟩, _⟩ := J.list hH
  obtain ⟨cls, dct, dat, sl⟩ := ob
  simp only at hc hdd hdt
  subst hc hdd hdt
  have hl := r.length
  have hn : its.toArray.size * k.toNat ≤ sizeLine := by rw [List.size_toArray, ← hl]; exact hz
  have c1 : ¬ its.toArray.size * k.toNat > (2 ^ 63 - 1) / 8 := by
    have : (sizeLine : Nat) ≤ (2 ^ 63 - 1) / 8 := by decide
    omega
  have c2 : ¬ (!Builtin.List.listFitsIndex k) = true := by
    rw [fitsIndex_both h1 h2]
    exact Bool.false_ne_true
  have c3 : ¬ Builtin.List.listTooLong (its.toArray.size * k.toNat) = true := by
    rw [notLongL hn]
    exact Bool.false_ne_true
  have hnew : List.foldl (fun x1 x2 => x1 ++ x2) #[] (List.replicate (if its.toArray.isEmpty = true then 0 else k.toNat) its.toArray) = (List.replicate k.toNat its).flatten.toArray := by
    have f0 : ∀ m : Nat, List.foldl (fun x1 x2 => x1 ++ x2) #[] (List.replicate m its.toArray) = (List.replicate m its).flatten.toArray := fun m => by
      have := foldl_rep its m []
      rw [List.nil_append] at this
      exact this
    rw [f0]
    cases its with
    | nil => simp
    | cons a r' => rw [if_neg (by simp)]
  refine wpAny_binaryOp_repeat_ref (T := "list") (U := "int") (by decide) ⟨_, e, rfl⟩ (fun s' => typeIs_int s' k t) noFill_list_mul F.fills_int_mul F.slot_int_rmul repeat_list F.slot_int_index.lookup
    (call_meets F.slot_int_rmul (typeIs_int s1 k t) F.entry_int_rmul (F.args_int_rmul_2 _ _) (lm_int_rmul_list_any k t l its.toArray n none sl)
      ⟨e, rfl, ⟨_, e, rfl⟩, call_meets F.slot_list_mul ⟨_, e, rfl⟩ F.entry_list_mul (F.args_list_mul_2 _ _) (lm_list_mul_any l its.toArray n none sl k t c2 c1 c3) ⟨e, ?_⟩⟩)
  rw [hnew]
  exact ⟨.ref _, _, J.lnew (t' := s1.toks) (r.rep k.toNat) (by rw [PyProof.Rows.lm_len_rep_flat, Nat.mul_comm]; exact hz), rfl, q _ J.fresh⟩
theorem reps_rep {K : Kw} {F H : Hp} {vs : List V} {ds : List D} (h : Reps K F H vs ds []) : ∀ n : Nat, Reps K F H (List.replicate n vs).flatten (List.replicate n ds).flatten []
  | 0 => .nil
  | n + 1 => by
    rw [List.replicate_succ, List.replicate_succ, List.flatten_cons, List.flatten_cons]
    exact h.app0 (reps_rep h n)
theorem or_mul : OpR X (binaryOp .Mult) (rO X.kw (op2 .mul) false) := by
  intro pins st σ H x y v u Q I rx ry h
  obtain ⟨F, d1, fp1, d2, fp2, d, m, r1, r2, e, q⟩ := h
  cases d1 <;> cases d2 <;> simp only [op2, reduceCtorEq] at e
  · rename_i i j
    obtain ⟨rfl, _⟩ := rep_int r1
    obtain ⟨rfl, _⟩ := rep_int r2
    by_cases hm : mulOk i j = true
    · rw [if_pos hm] at e
      cases e
      unfold mulOk at hm
      simp only [Bool.or_eq_true, Bool.and_eq_true, decide_eq_true_eq] at hm
      rcases hm with hm | hm | hm
      · exact op_mul pins st σ H _ _ v u Q I rx ry ⟨_, _, rfl, rfl, .inl ⟨by omega, by omega⟩, give_int m q⟩
      · exact op_mul pins st σ H _ _ v u Q I rx ry ⟨_, _, rfl, rfl, .inr ⟨by omega, by omega⟩, give_int m q⟩
      · exact op_mulW pins st σ H _ _ v u Q I rx ry ⟨_, _, rfl, rfl, wide_mul (a := 4096) (b := 4096) (big_lt hm.1) (big_lt hm.2) (by decide) (by decide) (by decide), give_int m q⟩
    · rw [if_neg hm] at e; cases e
  · rename_i s j
    obtain ⟨rfl, _, a1⟩ := rep_str r1
    obtain ⟨rfl, _⟩ := rep_int r2
    by_cases hm : j < 1000000 ∧ -1000000 < j ∧ s.length * j.toNat ≤ SL
    · rw [if_pos hm] at e
      cases e
      exact op_repS pins st σ H _ _ v u Q I rx ry ⟨s, j, rfl, rfl, hm.1, hm.2.1, hm.2.2, give_str m (asc_reps a1 _) q⟩
    · rw [if_neg hm] at e; cases e
  · rename_i o xs j
    obtain ⟨rfl, _⟩ := rep_int r2
    by_cases hm : ownL xs = false ∧ j < 1000000 ∧ -1000000 < j ∧ xs.length * j.toNat ≤ SL
    · rw [if_pos hm] at e
      cases e
      obtain ⟨a, vs, f0, rfl, t1, p1, hf⟩ := rep_lst m r1
      have p1 := fps_nil p1 hm.1
      have l1 := p1.len
      refine op_repL pins st σ H _ _ v u Q I rx ry ⟨a, j, vs, rfl, rfl, t1, by omega, by omega, by rw [l1, sl_eq]; exact hm.2.2.2, fun p hp => give_lst m hp (reps_rep p1 _) q⟩
    · rw [if_neg hm] at e; cases e
theorem or_fdiv : OpR X (binaryOp .FloorDiv) (rO X.kw (op2 .fdiv) false) := by
  intro pins s σ H x y v u Q I rx ry h
  obtain ⟨F, d1, fp1, d2, fp2, d, m, r1, r2, e, q⟩ := h
  cases d1 <;> cases d2 <;> simp only [op2, reduceCtorEq] at e
  rename_i i j
  obtain ⟨rfl, _⟩ := rep_int r1
  obtain ⟨rfl, _⟩ := rep_int r2
  by_cases hm : 0 < j ∧ j < 1073741824
  · rw [if_pos hm] at e
    cases e
    exact op_fdiv pins s σ H _ _ v u Q I rx ry ⟨_, _, rfl, rfl, hm, give_int m q⟩
  · rw [if_neg hm] at e; cases e
theorem or_mod : OpR X (binaryOp .Mod) (rO X.kw (op2 .mod) false) := by
  intro pins s σ H x y v u Q I rx ry h
  obtain ⟨F, d1, fp1, d2, fp2, d, m, r1, r2, e, q⟩ := h
  cases d1 <;> cases d2 <;> simp only [op2, reduceCtorEq] at e
  rename_i i j
  obtain ⟨rfl, _⟩ := rep_int r1
  obtain ⟨rfl, _⟩ := rep_int r2
  by_cases hm : 0 < j
  · rw [if_pos hm] at e
    cases e
    exact op_mod pins s σ H _ _ v u Q I rx ry ⟨_, _, rfl, rfl, hm, give_int m q⟩
  · rw [if_neg hm] at e; cases e
theorem or_pow : OpR X (binaryOp .Pow) (rO X.kw (op2 .pow) false) := by
  intro pins s σ H x y v u Q I rx ry h
  obtain ⟨F, d1, fp1, d2, fp2, d, m, r1, r2, e, q⟩ := h
  cases d1 <;> cases d2 <;> simp only [op2, reduceCtorEq] at e
  rename_i i j
  obtain ⟨rfl, _⟩ := rep_int r1
  obtain ⟨rfl, _⟩ := rep_int r2
  by_cases hm : 0 ≤ j ∧ j ≤ 1000000 ∧ i.natAbs < 18446744073709551616
  · rw [if_pos hm] at e
    cases e
    exact op_pow pins s σ H _ _ v u Q I rx ry ⟨_, _, rfl, rfl, ⟨hm.1, hm.2.1, hm.2.2⟩, give_int m q⟩
  · rw [if_neg hm] at e; cases e
theorem or_eq (hu : X.A.units + 64 < cLine) : OpR X (compareOp .Eq) (rO X.kw (op2 .eq) false) := by
  intro pins s σ H x y v u Q I rx ry h
  obtain ⟨F, d1, fp1, d2, fp2, d, m, r1, r2, e, q⟩ := h
  simp only [op2, eqOf] at e
  by_cases hd : d1.dep ≤ 64 ∧ d2.dep ≤ 64
  · rw [if_pos hd] at e
    cases e
    refine op_eqD hu pins s σ H x y v u Q I rx ry ⟨_, _, r1.dp m (by omega), r2.dp m (by omega), r1.shaped hd.1, r2.shaped hd.2, ?_⟩
    rw [py_eqv _ _ (by omega) (by omega)]
    exact give_bl m q
  · rw [if_neg hd] at e; cases e
theorem or_ne (hu : X.A.units + 64 < cLine) : OpR X (compareOp .NotEq) (rO X.kw (op2 .ne) false) := by
  intro pins s σ H x y v u Q I rx ry h
  obtain ⟨F, d1, fp1, d2, fp2, d, m, r1, r2, e, q⟩ := h
  simp only [op2, eqOf] at e
  by_cases hd : d1.dep ≤ 64 ∧ d2.dep ≤ 64
  · rw [if_pos hd] at e
    cases e
    refine op_neD hu pins s σ H x y v u Q I rx ry ⟨_, _, r1.dp m (by omega), r2.dp m (by omega), r1.shaped hd.1, r2.shaped hd.2, ?_⟩
    rw [py_eqv _ _ (by omega) (by omega)]
    exact give_bl m q
  · rw [if_neg hd] at e; cases e
theorem lexb_lt : ∀ a b : List Nat, lexb a b = decide (a < b)
  | [], [] => by simp [lexb]
  | [], _ :: _ => by simp [lexb]
  | _ :: _, [] => by simp [lexb]
  | x :: xs, y :: ys => by
    simp only [lexb, List.cons_lt_cons_iff]
    rw [lexb_lt xs ys]
    by_cases h : x = y
    · subst h; simp
    · simp [h]
theorem or_lt : OpR X (compareOp .Lt) (rO X.kw (op2 .lt) false) := by
  intro pins s σ H x y v u Q I rx ry h
  obtain ⟨F, d1, fp1, d2, fp2, d, m, r1, r2, e, q⟩ := h
  cases d1 <;> cases d2 <;> simp only [op2, reduceCtorEq] at e
  · obtain ⟨rfl, _⟩ := rep_int r1
    obtain ⟨rfl, _⟩ := rep_int r2
    cases e
    exact op_lt pins s σ H _ _ v u Q I rx ry ⟨_, _, rfl, rfl, give_bl m q⟩
  · obtain ⟨rfl, _, a1⟩ := rep_str r1
    obtain ⟨rfl, _, a2⟩ := rep_str r2
    cases e
    refine op_lt_str pins s σ H _ _ v u Q I rx ry ⟨_, _, rfl, rfl, ?_⟩
    rw [lexb_lt] at q
    exact give_bl m q
theorem or_le : OpR X (compareOp .LtE) (rO X.kw (op2 .le) false) := by
  intro pins s σ H x y v u Q I rx ry h
  obtain ⟨F, d1, fp1, d2, fp2, d, m, r1, r2, e, q⟩ := h
  cases d1 <;> cases d2 <;> simp only [op2, reduceCtorEq] at e
  · obtain ⟨rfl, _⟩ := rep_int r1
    obtain ⟨rfl, _⟩ := rep_int r2
    cases e
    exact op_le pins s σ H _ _ v u Q I rx ry ⟨_, _, rfl, rfl, give_bl m q⟩
  · obtain ⟨rfl, _, a1⟩ := rep_str r1
    obtain ⟨rfl, _, a2⟩ := rep_str r2
    cases e
    refine op_le_str pins s σ H _ _ v u Q I rx ry ⟨_, _, rfl, rfl, ?_⟩
    rw [lexb_lt] at q
    exact give_bl m q
theorem or_gt : OpR X (compareOp .Gt) (rO X.kw (op2 .gt) false) := by
  intro pins s σ H x y v u Q I rx ry h
  obtain ⟨F, d1, fp1, d2, fp2, d, m, r1, r2, e, q⟩ := h
  cases d1 <;> cases d2 <;> simp only [op2, reduceCtorEq] at e
  · obtain ⟨rfl, _⟩ := rep_int r1
    obtain ⟨rfl, _⟩ := rep_int r2
    cases e
    exact op_gt pins s σ H _ _ v u Q I rx ry ⟨_, _, rfl, rfl, give_bl m q⟩
  · obtain ⟨rfl, _, a1⟩ := rep_str r1
    obtain ⟨rfl, _, a2⟩ := rep_str r2
    cases e
    refine op_gt_str pins s σ H _ _ v u Q I rx ry ⟨_, _, rfl, rfl, ?_⟩
    rw [lexb_lt] at q
    exact give_bl m q
theorem or_ge : OpR X (compareOp .GtE) (rO X.kw (op2 .ge) false) := by
  intro pins s σ H x y v u Q I rx ry h
  obtain ⟨F, d1, fp1, d2, fp2, d, m, r1, r2, e, q⟩ := h
  cases d1 <;> cases d2 <;> simp only [op2, reduceCtorEq] at e
  · obtain ⟨rfl, _⟩ := rep_int r1
    obtain ⟨rfl, _⟩ := rep_int r2
    cases e
    exact op_ge pins s σ H _ _ v u Q I rx ry ⟨_, _, rfl, rfl, give_bl m q⟩
  · obtain ⟨rfl, _, a1⟩ := rep_str r1
    obtain ⟨rfl, _, a2⟩ := rep_str r2
    cases e
    refine op_ge_str pins s σ H _ _ v u Q I rx ry ⟨_, _, rfl, rfl, ?_⟩
    rw [lexb_lt] at q
    exact give_bl m q
end
end Z

set_option Elab.async false
set_option linter.all false
set_option maxRecDepth 100000
/-! Dicts: from the abstract ones to the library's. -/
namespace Z
open PySem PySem.Spec PyProof.Rows L2

/-! ### keys -/
mutual
theorem nk_beq : ∀ x y : D, x.hs = true → y.hs = true → NestedKey.beq x.nk y.nk = x.peq y
  | .non, y, _, h => by cases y <;> first | rfl | (simp [D.hs] at h; done)
  | .bl b, y, _, h => by
    cases y <;> first | rfl | (simp [D.hs] at h; done) | skip
    · rename_i c
      cases b <;> cases c <;> rfl
  | .int i, y, _, h => by cases y <;> first | rfl | (simp [D.hs] at h; done)
  | .str s, y, _, h => by
    cases y <;> first | rfl | (simp [D.hs] at h; done) | skip
    · rename_i t
      simp only [D.nk, D.peq, NestedKey.beq]
      have e : decide ((⟨s.toArray⟩ : Str) = ⟨t.toArray⟩) = (s == t) := by
        by_cases q : s = t
        · subst q; simp
        · have : ¬ (⟨s.toArray⟩ : Str) = ⟨t.toArray⟩ := fun z => q (by injection z with z; simpa using congrArg Array.toList z)
          simp [this, q]
      exact e
  | .tup xs, y, h1, h => by
    cases y <;> first | rfl | (simp [D.hs] at h; done) | skip
    · rename_i ys
      simp only [D.nk, D.peq, NestedKey.beq]
      exact nk_beqL xs ys (by simpa [D.hs] using h1) (by simpa [D.hs] using h)
  | .lst _ _, _, h, _ => by simp [D.hs] at h
  | .dct _ _, _, h, _ => by simp [D.hs] at h
  | .set _ _, _, h, _ => by simp [D.hs] at h
  | .ins _ _ _, _, h, _ => by simp [D.hs] at h
theorem nk_beqL : ∀ xs ys : List D, hsL xs = true → hsL ys = true → NestedKey.beqAll (nkL xs) (nkL ys) = peqL xs ys
  | [], [], _, _ => by simp [nkL, NestedKey.beqAll, peqL]
  | [], _ :: _, _, _ => by simp [nkL, NestedKey.beqAll, peqL]
  | _ :: _, [], _, _ => by simp [nkL, NestedKey.beqAll, peqL]
  | x :: xs, y :: ys, h1, h2 => by
    simp only [hsL, Bool.and_eq_true] at h1 h2
    simp only [nkL, NestedKey.beqAll, peqL, nk_beq x y h1.1 h2.1, nk_beqL xs ys h1.2 h2.2]
end
theorem peq_nk {x y : D} (hx : x.hs = true) (hy : y.hs = true) : x.peq y = true ↔ x.nk = y.nk := by
  rw [← nk_beq x y hx hy, ← NestedKey.decide_eq, decide_eq_true_eq]
mutual
theorem nk_dep : ∀ x : D, x.hs = true → x.nk.depth = x.dep
  | .non, _ => by simp [D.nk, D.dep, NestedKey.depth]
  | .bl _, _ => by simp [D.nk, D.dep, NestedKey.depth]
  | .int _, _ => by simp [D.nk, D.dep, NestedKey.depth]
  | .str _, _ => by simp [D.nk, D.dep, NestedKey.depth]
  | .tup xs, h => by
    simp only [D.nk, D.dep, NestedKey.depth, nk_depL xs (by simpa [D.hs] using h)]
  | .lst _ _, h => by simp [D.hs] at h
  | .dct _ _, h => by simp [D.hs] at h
  | .set _ _, h => by simp [D.hs] at h
  | .ins _ _ _, h => by simp [D.hs] at h
theorem nk_depL : ∀ xs : List D, hsL xs = true → NestedKey.depthAll (nkL xs) = depL xs
  | [], _ => by simp [nkL, depL, NestedKey.depthAll]
  | x :: xs, h => by
    simp only [hsL, Bool.and_eq_true] at h
    simp only [nkL, depL, NestedKey.depthAll, nk_dep x h.1, nk_depL xs h.2]
end
theorem kd_1 {x : D} (h : x.kd = 1) : ∃ s, x = .str s := by
  cases x <;> first | exact ⟨_, rfl⟩ | (simp [D.kd] at h; done) | (simp only [D.kd] at h; split at h <;> cases h)
theorem kd_2 {x : D} (h : x.kd = 2) : ∃ xs, x = .tup xs ∧ hsL xs = true ∧ depL xs ≤ 7 := by
  cases x <;> (try (simp [D.kd] at h; done))
  rename_i xs
  simp only [D.kd] at h
  split at h
  · rename_i q
    rw [Bool.and_eq_true, decide_eq_true_eq] at q
    exact ⟨xs, rfl, q⟩
  · cases h
theorem kd_12 (x : D) : x.kd = 0 ∨ x.kd = 1 ∨ x.kd = 2 := by
  cases x <;> (try (first | exact .inl rfl | exact .inr (.inl rfl)))
  rename_i xs
  simp only [D.kd]
  split
  · exact .inr (.inr rfl)
  · exact .inl rfl

/-! ### values as keys -/
section
variable {X : Cx} {pins : List (Addr × Obj)} {σ : L2.St} {F H : Hp} {s : Shared}
mutual
theorem nis (I : Inv X pins σ H s) (m : ∀ a o, F a = some o → H a = some o) : ∀ {v : V} {d : D} {fp : List Addr}, Rep X.kw F H v d fp → d.hs = true → ∀ u, RelV v u → NestedIs s.heap d.nk u
  | _, _, _, .non, _, _, e => by cases e; exact .none
  | _, _, _, .bl b, _, _, e => by cases e; exact .bool (by cases b <;> rfl)
  | _, _, _, .int i, _, _, e => by obtain ⟨t, rfl⟩ := e; exact .int i t
  | _, _, _, .str x _, _, _, e => by obtain ⟨t, rfl⟩ := e; exact .text _ t
  | _, _, _, .tup h hs, q, _, e => by
    cases e
    obtain ⟨its, r, ⟨o, h1, h2, n, h3⟩, _⟩ := I.tuple (sqT_mono h.t m)
    exact .tup h1 h2 h3 (by simpa using nisL I m hs (by simpa [D.hs] using q) its r)
  | _, _, _, .dctF _ _ _ _ _, q, _, _ => by simp [D.hs] at q
  | _, _, _, .dctO _ _ _ _ _ _ _, q, _, _ => by simp [D.hs] at q
  | _, _, _, .lstF _ _, q, _, _ => by simp [D.hs] at q
  | _, _, _, .lstO _ _ _ _, q, _, _ => by simp [D.hs] at q
theorem nisL (I : Inv X pins σ H s) (m : ∀ a o, F a = some o → H a = some o) : ∀ {vs : List V} {ds : List D} {fp : List Addr}, Reps X.kw F H vs ds fp → hsL ds = true → ∀ us, Vals vs us → NestedAll s.heap (nkL ds) us
  | _, _, _, .nil, _, us, r => by cases r; exact .nil
  | _, _, _, .cons h hs hd, q, us, r => by
    simp only [hsL, Bool.and_eq_true] at q
    cases r with
    | cons r rs => exact .cons (nis I m h q.1 _ r) (nisL I m hs q.2 _ rs)
end
end

/-! ### the two kinds of dicts -/
def XZ : List Z3 → List (NestedKey × Addr × Value) → Prop := Paired fun z x => z.1 = x.1 ∧ z.2.1 = .ref x.2.1 ∧ RelV z.2.2 x.2.2
def KZ : List Z3 → List (Str × Value) → Prop := Paired fun z x => z.1 = .text x.1 ∧ z.2.1 = .str x.1 ∧ RelV z.2.2 x.2
def UZ : List Z3 → List (NestedKey × Value) → Prop := Paired fun z x => z.1 = x.1 ∧ RelV z.2.2 x.2
theorem XZ.uz {zs : List Z3} {xs : List (NestedKey × Addr × Value)} (h : XZ zs xs) : UZ zs (pairsH xs) := by
  induction h with
  | nil => exact .nil
  | cons h _ ih => exact .cons ⟨h.1, h.2.2⟩ ih
theorem KZ.uz {zs : List Z3} {xs : List (Str × Value)} (h : KZ zs xs) : UZ zs (xs.map fun p => (.text p.1, p.2)) := by
  induction h with
  | nil => exact .nil
  | cons h _ ih => exact .cons ⟨h.1, h.2.2⟩ ih
theorem valueAt_text (x : Str) : ∀ xs : List (Str × Value), valueAt (xs.map fun p => (NestedKey.text p.1, p.2)) (.text x) = valueAt xs x
  | [] => rfl
  | p :: xs => by
    have ih := valueAt_text x xs
    unfold valueAt at ih ⊢
    rw [List.map_cons, List.find?_cons, List.find?_cons]
    by_cases h : p.1 = x
    · simp [h]
    · have h2 : ¬ NestedKey.text p.1 = NestedKey.text x := fun e => h (NestedKey.text.inj e)
      simp only [decide_eq_false h, decide_eq_false h2]
      exact ih
def zput (zs : List Z3) (k : NestedKey) (kv yv : V) : List Z3 := if zs.any (fun z => decide (z.1 = k)) then zs.map (fun z => if z.1 = k then (z.1, z.2.1, yv) else z) else zs ++ [(k, kv, yv)]
def zdel (zs : List Z3) (k : NestedKey) : List Z3 := zs.filter fun z => decide (z.1 ≠ k)
theorem XZ.any {zs : List Z3} {xs : List (NestedKey × Addr × Value)} (h : XZ zs xs) (k : NestedKey) : (atKey xs k).isSome = zs.any fun z => decide (z.1 = k) := by
  induction h with
  | nil => rfl
  | @cons z x zs xs h _ ih =>
    unfold atKey at ih ⊢
    rw [List.find?_cons, List.any_cons, h.1]
    by_cases e : x.1 = k
    · simp [e]
    · simp only [decide_eq_false e, Bool.false_or]
      exact ih
theorem KZ.any {zs : List Z3} {xs : List (Str × Value)} (h : KZ zs xs) (k : Str) : (xs.any fun kv => decide (kv.1 = k)) = zs.any fun z => decide (z.1 = .text k) := by
  induction h with
  | nil => rfl
  | @cons z x zs xs h _ ih =>
    rw [List.any_cons, List.any_cons, h.1, ih]
    congr 1
    simp
theorem XZ.repl {zs : List Z3} {xs : List (NestedKey × Addr × Value)} (h : XZ zs xs) (k : NestedKey) {y : V} {u : Value} (ry : RelV y u) : XZ (zs.map fun z => if z.1 = k then (z.1, z.2.1, y) else z) (xs.map (putAt k u)) := by
  induction h with
  | nil => exact .nil
  | @cons z x zs xs h _ ih =>
    rw [List.map_cons, List.map_cons]
    refine .cons ?_ ih
    unfold putAt
    by_cases q : z.1 = k
    · simp only [if_pos q, if_pos (h.1.symm.trans q)]; exact ⟨h.1, h.2.1, ry⟩
    · have q2 : ¬ x.1 = k := fun w => q (h.1.trans w)
      simp only [if_neg q, if_neg q2]; exact h
theorem KZ.repl {zs : List Z3} {xs : List (Str × Value)} (h : KZ zs xs) (k : Str) {y : V} {u : Value} (ry : RelV y u) : KZ (zs.map fun z => if z.1 = .text k then (z.1, z.2.1, y) else z) (xs.map fun kv => if kv.1 = k then (kv.1, u) else kv) := by
  induction h with
  | nil => exact .nil
  | @cons z x zs xs h _ ih =>
    rw [List.map_cons, List.map_cons]
    refine .cons ?_ ih
    by_cases q : z.1 = .text k
    · have q2 : x.1 = k := by rw [h.1] at q; exact NestedKey.text.inj q
      simp only [if_pos q, if_pos q2]; exact ⟨h.1, h.2.1, ry⟩
    · have q2 : ¬ x.1 = k := fun w => q (by rw [h.1, w])
      simp only [if_neg q, if_neg q2]; exact h
theorem XZ.put {zs : List Z3} {xs : List (NestedKey × Addr × Value)} (h : XZ zs xs) (k : NestedKey) {b : Addr} {y : V} {u : Value} (ry : RelV y u) : XZ (zput zs k (.ref b) y) (storedH xs k b u) := by
  have e := h.any k
  unfold zput storedH
  rw [e]
  split
  · exact h.repl k ry
  · exact Paired.snoc h ⟨rfl, rfl, ry⟩
theorem KZ.put {zs : List Z3} {xs : List (Str × Value)} (h : KZ zs xs) (k : Str) {y : V} {u : Value} (ry : RelV y u) : KZ (zput zs (.text k) (.str k) y) (stored xs k u) := by
  have e := h.any k
  unfold zput stored
  rw [e]
  split
  · exact h.repl k ry
  · exact Paired.snoc h ⟨rfl, rfl, ry⟩
theorem XZ.del {zs : List Z3} {xs : List (NestedKey × Addr × Value)} (h : XZ zs xs) (k : NestedKey) : XZ (zdel zs k) (withoutH xs k) := by
  unfold zdel withoutH
  induction h with
  | nil => exact .nil
  | @cons z x zs xs h _ ih =>
    rw [List.filter_cons, List.filter_cons, ← h.1]
    split
    · exact .cons h ih
    · exact ih
theorem KZ.del {zs : List Z3} {xs : List (Str × Value)} (h : KZ zs xs) (k : Str) : KZ (zdel zs (.text k)) (without xs k) := by
  unfold zdel without
  induction h with
  | nil => exact .nil
  | @cons z x zs xs h _ ih =>
    rw [List.filter_cons, List.filter_cons]
    have e : decide (z.1 ≠ .text k) = decide (x.1 ≠ k) := by rw [h.1]; simp
    rw [e]
    split
    · exact .cons h ih
    · exact ih

/-! ### looking up, storing -/
section
variable {K : Kw} {F H : Hp}
theorem look : ∀ {zs : List Z3} {ds : List (D × D)} {us : List (NestedKey × Value)} {fp : List Addr} {n : Nat} {x : D}, n ≠ 0 → PReps K F H (zs.map (·.2)) ds fp → zs.map (·.1) = ds.map (·.1.nk) → UZ zs us → kOk n ds = true → x.hs = true →
    (∀ d, dget ds x = some d → ∃ v u fq, valueAt us x.nk = some u ∧ RelV v u ∧ Rep K F H v d fq ∧ ∀ a ∈ fq, a ∈ fp) ∧ (dget ds x = none → valueAt us x.nk = none)
  | [], [], us, fp, n, x, _, _, _, r, _, _ => by
    cases r
    exact ⟨fun d h => by simp [dget] at h, fun _ => rfl⟩
  | [], _ :: _, _, _, _, _, _, _, h, _, _, _ => by simp at h
  | _ :: _, [], _, _, _, _, _, _, h, _, _, _ => by simp at h
  | (zn, zk, zv) :: zs, (kd, dd) :: ds, us, fp, n, x, hn, p, hk, r, hq, hx => by
    simp only [List.map_cons, List.cons.injEq] at hk
    simp only [kOk, List.all_cons, Bool.and_eq_true, beq_iff_eq] at hq
    have hkd : kd.hs = true := kd_hs (by rw [hq.1]; exact hn)
    cases r with
    | @cons _ u _ us r rs =>
      rw [List.map_cons] at p
      cases p with
      | @cons _ _ _ _ _ _ fp fq p0 p1 p2 hd =>
        obtain ⟨ih1, ih2⟩ := look hn p2 hk.2 rs (by unfold kOk; exact hq.2) hx
        have r1 : zn = u.1 := r.1
        have e : decide (u.1 = x.nk) = kd.peq x := by
          rw [← r1, hk.1, NestedKey.decide_eq, nk_beq kd x hkd hx]
        simp only [dget]
        unfold valueAt at ih1 ih2 ⊢
        rw [List.find?_cons, e]
        cases kd.peq x with
        | true => exact ⟨fun d h => by cases h; exact ⟨_, _, _, rfl, r.2, p1, fun a ha => List.mem_append_left _ ha⟩, fun h => by cases h⟩
        | false => exact ⟨fun d h => by
            obtain ⟨v, w, fr, h1, h2, h3, h4⟩ := ih1 d h
            exact ⟨v, w, fr, h1, h2, h3, fun a ha => List.mem_append_right _ (h4 a ha)⟩, fun h => ih2 h⟩
theorem any_get : ∀ {zs : List Z3} {ds : List (D × D)} {n : Nat} {x : D}, n ≠ 0 → zs.map (·.1) = ds.map (·.1.nk) → kOk n ds = true → x.hs = true → (zs.any fun z => decide (z.1 = x.nk)) = (dget ds x).isSome
  | [], [], _, _, _, _, _, _ => rfl
  | [], _ :: _, _, _, _, h, _, _ => by simp at h
  | _ :: _, [], _, _, _, h, _, _ => by simp at h
  | z :: zs, (kd, dd) :: ds, n, x, hn, hk, hq, hx => by
    simp only [List.map_cons, List.cons.injEq] at hk
    simp only [kOk, List.all_cons, Bool.and_eq_true, beq_iff_eq] at hq
    have hkd : kd.hs = true := kd_hs (by rw [hq.1]; exact hn)
    have ih := any_get hn hk.2 (by unfold kOk; exact hq.2) hx
    have e : decide (z.1 = x.nk) = kd.peq x := by rw [hk.1, NestedKey.decide_eq, nk_beq kd x hkd hx]
    simp only [List.any_cons, dget, e]
    cases kd.peq x with
    | true => rfl
    | false => simpa using ih
theorem preps_rep : ∀ {zs : List Z3} {ds : List (D × D)} {fp fy : List Addr} {n : Nat} {x y : D} {yv : V}, n ≠ 0 → PReps K F H (zs.map (·.2)) ds fp → zs.map (·.1) = ds.map (·.1.nk) → kOk n ds = true → x.hs = true → (zs.map (·.1)).Nodup →
    Rep K F H yv y fy → (∀ a ∈ fy, a ∉ fp) → ∃ fp', PReps K F H ((zs.map fun z => if z.1 = x.nk then (z.1, z.2.1, yv) else z).map (·.2)) (drep ds x y) fp' ∧ (zs.map fun z => if z.1 = x.nk then (z.1, z.2.1, yv) else z).map (·.1) = (drep ds x y).map (·.1.nk) ∧ kOk n (drep ds x y) = true ∧
      ∀ a ∈ fp', a ∈ fp ∨ a ∈ fy
  | [], [], _, _, _, _, _, _, _, p, _, _, _, _, _, _ => ⟨_, p, rfl, rfl, fun a ha => .inl ha⟩
  | [], _ :: _, _, _, _, _, _, _, _, _, h, _, _, _, _, _ => by simp at h
  | _ :: _, [], _, _, _, _, _, _, _, _, h, _, _, _, _, _ => by simp at h
  | (zn, zk, zv) :: zs, (kd, dd) :: ds, fp, fy, n, x, y, yv, hn, p, hk, hq, hx, hnd, ry, hy => by
    simp only [List.map_cons, List.cons.injEq] at hk
    have hq0 := hq
    simp only [kOk, List.all_cons, Bool.and_eq_true, beq_iff_eq] at hq
    have hkd : kd.hs = true := kd_hs (by rw [hq.1]; exact hn)
    rw [List.map_cons, List.nodup_cons] at hnd
    rw [List.map_cons] at p
    cases p with
    | @cons kv v _ _ _ _ fp fq p0 p1 p2 hd =>
      have e : decide (zn = x.nk) = kd.peq x := by rw [hk.1, NestedKey.decide_eq, nk_beq kd x hkd hx]
      simp only [drep, List.map_cons]
      cases q : kd.peq x with
      | true =>
        rw [q, decide_eq_true_eq] at e
        have hz : ∀ w ∈ zs, ¬ w.1 = x.nk := fun w hw he => hnd.1 (by
          have e3 : zn = w.1 := e.trans he.symm
          show zn ∈ _
          rw [e3]
          exact List.mem_map_of_mem (f := fun z : Z3 => z.1) hw)
        have e2 : (zs.map fun z => if z.1 = x.nk then (z.1, z.2.1, yv) else z) = zs := by
          conv => rhs; rw [← List.map_id zs]
          exact List.map_congr_left fun w hw => if_neg (hz w hw)
        rw [e2, if_pos e]
        refine ⟨fy ++ fq, .cons p0 ry p2 fun a ha z => hy a ha (List.mem_append_right _ z), ?_, ?_, fun a ha => ?_⟩
        · simp only [if_true, List.map_cons, hk.1, hk.2]
        · simp only [if_true]
          unfold kOk at hq0 ⊢
          exact hq0
        · rcases List.mem_append.mp ha with w | w
          · exact .inr w
          · exact .inl (List.mem_append_right _ w)
      | false =>
        rw [q, decide_eq_false_iff_not] at e
        obtain ⟨fp', q1, q2, q3, q4⟩ := preps_rep hn p2 hk.2 (by unfold kOk; exact hq.2) hx hnd.2 ry fun a ha z => hy a ha (List.mem_append_right _ z)
        rw [if_neg e]
        simp only [Bool.false_eq_true, if_false, List.map_cons]
        refine ⟨fp ++ fp', .cons p0 p1 q1 fun a ha z => ?_, ?_, ?_, fun a ha => ?_⟩
        · rcases q4 a z with w | w
          · exact hd a ha w
          · exact hy a w (List.mem_append_left _ ha)
        · rw [hk.1, q2]
        · simp only [kOk, List.all_cons, Bool.and_eq_true, beq_iff_eq]
          exact ⟨hq.1, by unfold kOk at q3; exact q3⟩
        · rcases List.mem_append.mp ha with w | w
          · exact .inl (List.mem_append_left _ w)
          · rcases q4 a w with w | w
            · exact .inl (List.mem_append_right _ w)
            · exact .inr w
theorem preps_app : ∀ {ps qs : List (V × V)} {ds es : List (D × D)} {fp fq : List Addr}, PReps K F H ps ds fp → PReps K F H qs es fq → (∀ a ∈ fp, a ∉ fq) → PReps K F H (ps ++ qs) (ds ++ es) (fp ++ fq)
  | _, _, _, _, _, _, .nil, h2, _ => h2
  | _, _, _, _, _, _, .cons (fp := f1) (fq := f2) h0 h hs hd, h2, k => by
    rw [List.append_assoc]
    refine .cons h0 h (preps_app hs h2 fun a z => k a (List.mem_append_right _ z)) fun a z y => ?_
    rcases List.mem_append.mp y with y | y
    · exact hd a z y
    · exact k a (List.mem_append_left _ z) y
theorem preps_put {zs : List Z3} {ds : List (D × D)} {fp fy : List Addr} {n : Nat} {x y : D} {kv yv : V} (hn : n ≠ 0) (p : PReps K F H (zs.map (·.2)) ds fp) (hk : zs.map (·.1) = ds.map (·.1.nk)) (hq : kOk n ds = true) (hx : x.kd = n) (hnd : (zs.map (·.1)).Nodup)
    (rk : Rep K F H kv x []) (ry : Rep K F H yv y fy) (hy : ∀ a ∈ fy, a ∉ fp) : ∃ fp', PReps K F H ((zput zs x.nk kv yv).map (·.2)) (dput ds x y) fp' ∧ (zput zs x.nk kv yv).map (·.1) = (dput ds x y).map (·.1.nk) ∧ kOk n (dput ds x y) = true ∧
      ((zput zs x.nk kv yv).map (·.1)).Nodup ∧ (zput zs x.nk kv yv).length ≤ zs.length + 1 ∧ ∀ a ∈ fp', a ∈ fp ∨ a ∈ fy := by
  have hx2 : x.hs = true := kd_hs (by rw [hx]; exact hn)
  unfold zput dput
  rw [any_get hn hk hq hx2]
  split
  · obtain ⟨fp', q1, q2, q3, q4⟩ := preps_rep hn p hk hq hx2 hnd ry hy
    refine ⟨fp', q1, q2, q3, ?_, by rw [List.length_map]; omega, q4⟩
    have e : (zs.map fun z => if z.1 = x.nk then (z.1, z.2.1, yv) else z).map (·.1) = zs.map (·.1) := by
      rw [List.map_map]
      refine List.map_congr_left fun w _ => ?_
      show (if w.1 = x.nk then (w.1, w.2.1, yv) else w).1 = w.1
      split <;> rfl
    rw [e]
    exact hnd
  · rename_i hs
    refine ⟨fp ++ (fy ++ []), ?_, ?_, ?_, ?_, by simp, fun a ha => ?_⟩
    · rw [List.map_append]
      exact preps_app p (.cons rk ry .nil fun _ _ z => nomatch z) fun a ha z => by
        rw [List.append_nil] at z
        exact hy a z ha
    · rw [List.map_append, List.map_append, hk]; rfl
    · unfold kOk at hq ⊢
      rw [List.all_append, hq]
      simp [hx]
    · rw [List.map_append, List.nodup_append]
      refine ⟨hnd, by simp, fun a ha b hb => ?_⟩
      simp only [List.map_cons, List.map_nil, List.mem_singleton] at hb
      subst hb
      intro e
      subst e
      have h2 := any_get hn hk hq hx2
      have h3 : (zs.any fun z => decide (z.1 = x.nk)) = true := by
        obtain ⟨w, hw, he⟩ := List.mem_map.mp ha
        exact List.any_eq_true.mpr ⟨w, hw, decide_eq_true he⟩
      rw [h2] at h3
      exact hs h3
    · rw [List.append_nil] at ha
      exact List.mem_append.mp ha
theorem preps_del : ∀ {zs : List Z3} {ds : List (D × D)} {fp : List Addr} {n : Nat} {x : D}, n ≠ 0 → PReps K F H (zs.map (·.2)) ds fp → zs.map (·.1) = ds.map (·.1.nk) → kOk n ds = true → x.hs = true →
    ∃ fp', PReps K F H ((zdel zs x.nk).map (·.2)) (ddel ds x) fp' ∧ (zdel zs x.nk).map (·.1) = (ddel ds x).map (·.1.nk) ∧ kOk n (ddel ds x) = true ∧ ∀ a ∈ fp', a ∈ fp
  | [], [], _, _, _, _, p, _, _, _ => ⟨_, p, rfl, rfl, fun a ha => ha⟩
  | [], _ :: _, _, _, _, _, _, h, _, _ => by simp at h
  | _ :: _, [], _, _, _, _, _, h, _, _ => by simp at h
  | (zn, zk, zv) :: zs, (kd, dd) :: ds, fp, n, x, hn, p, hk, hq, hx => by
    simp only [List.map_cons, List.cons.injEq] at hk
    simp only [kOk, List.all_cons, Bool.and_eq_true, beq_iff_eq] at hq
    have hkd : kd.hs = true := kd_hs (by rw [hq.1]; exact hn)
    rw [List.map_cons] at p
    cases p with
    | @cons kv v _ _ _ _ fp fq p0 p1 p2 hd =>
      have e : decide (zn ≠ x.nk) = !(kd.peq x) := by
        rw [← nk_beq kd x hkd hx, ← NestedKey.decide_eq, ← hk.1, decide_not]
      obtain ⟨fp', q1, q2, q3, q4⟩ := preps_del hn p2 hk.2 (by unfold kOk; exact hq.2) hx
      unfold zdel at q1 q2 ⊢
      rw [List.filter_cons, e]
      simp only [ddel]
      cases kd.peq x with
      | true => exact ⟨fp', q1, q2, q3, fun a ha => List.mem_append_right _ (q4 a ha)⟩
      | false =>
        simp only [Bool.not_false, if_true, Bool.false_eq_true, if_false, List.map_cons]
        refine ⟨fp ++ fp', .cons p0 p1 q1 fun a ha z => hd a ha (q4 a z), by rw [hk.1, q2], ?_, fun a ha => ?_⟩
        · simp only [kOk, List.all_cons, Bool.and_eq_true, beq_iff_eq]
          exact ⟨hq.1, by unfold kOk at q3; exact q3⟩
        · rcases List.mem_append.mp ha with w | w
          · exact List.mem_append_left _ w
          · exact List.mem_append_right _ (q4 a w)
end
end Z

set_option Elab.async false
set_option linter.all false
set_option maxRecDepth 100000
/-! Dicts: the operations. -/
namespace Z
open PySem PySem.Spec PyProof.Rows L2

section
variable {P : Program} {w : World} {K : Kw} {F H : Hp}
theorem ent1 : ∀ {zs : List Z3} {es : List DictEntry} {ds : List (D × D)} {fp : List Addr}, Paired (EntD w) zs es → PReps K F H (zs.map (·.2)) ds fp → zs.map (·.1) = ds.map (·.1.nk) → kOk 1 ds = true →
    ∃ kvs, KZ zs kvs ∧ Pairs (strKind P w) es kvs ∧ (∀ e ∈ es, ∃ k, (strKind P w).is k e.key = true ∧ e.hash = (strKind P w).hash k) ∧ kvs.map (fun p => NestedKey.text p.1) = zs.map (·.1)
  | [], _, _, _, r, _, _, _ => by cases r; exact ⟨[], .nil, .nil, fun _ z => (nomatch z), rfl⟩
  | _ :: _, _, [], _, _, _, h, _ => by simp at h
  | (zn, zk, zv) :: zs, _, (kd, dd) :: ds, _, r, p, hk, hq => by
    simp only [List.map_cons, List.cons.injEq] at hk
    simp only [kOk, List.all_cons, Bool.and_eq_true, beq_iff_eq] at hq
    obtain ⟨x, rfl⟩ := kd_1 hq.1
    rw [List.map_cons] at p
    cases p with
    | cons p0 p1 p2 hd =>
      cases r with
      | @cons _ e _ es r rs =>
        obtain ⟨kvs, h1, h2, h3, h4⟩ := ent1 rs p2 hk.2 (by unfold kOk; exact hq.2)
        obtain ⟨r1, r2, r3⟩ := r
        obtain ⟨q1, _, _⟩ := rep_str p0
        have q1 : zk = .str (SX.S x) := q1
        subst q1
        obtain ⟨t, r2⟩ := r2
        have hk1 : zn = .text (SX.S x) := hk.1
        have r1 : e.hash = zn.hash w := r1
        refine ⟨(SX.S x, e.val) :: kvs, .cons ⟨hk1, rfl, r3⟩ h1, .cons ?_ rfl h2, fun y hy => ?_, by rw [List.map_cons, List.map_cons, h4, hk1]⟩
        · rw [r2]; exact kV_str _ _
        · rcases List.mem_cons.mp hy with z | z
          · subst z
            refine ⟨SX.S x, by rw [r2]; exact kV_str _ _, ?_⟩
            rw [r1, hk1]
            rfl
          · exact h3 y z
where
  kV_str (x : Str) (t : Tok) : (strKind P w).is x (.str x t) = true := by
    show Value.isStrOf x (.str x t) = true
    simp [Value.isStrOf]
theorem ent1_back {zs : List Z3} {kvs : List (Str × Value)} (h : KZ zs kvs) : ∀ {es : List DictEntry}, Pairs (strKind P w) es kvs → (∀ e ∈ es, ∃ k, (strKind P w).is k e.key = true ∧ e.hash = (strKind P w).hash k) → Paired (EntD w) zs es := by
  induction h with
  | nil => intro es h _; cases h; exact .nil
  | @cons z x zs xs h _ ih =>
    intro es p ks
    cases p with
    | @cons e _ es _ p1 p2 p3 =>
      refine .cons ⟨?_, ?_, ?_⟩ (ih p3 fun y hy => ks y (List.mem_cons_of_mem _ hy))
      · obtain ⟨k, k1, k2⟩ := ks e List.mem_cons_self
        have : k = x.1 := (strKind P w).inj _ _ _ k1 p1
        rw [k2, h.1, this]
        rfl
      · obtain ⟨t, et⟩ := Value.isStrOf_shape p1
        rw [h.2.1, et]
        exact ⟨t, rfl⟩
      · rw [p2]; exact h.2.2
end
section
variable {X : Cx} {pins : List (Addr × Obj)} {σ : L2.St} {F H : Hp} {s : Shared} {a : Addr} {o : Obj} {zs : List Z3} {ds : List (D × D)} {fp : List Addr}
theorem ent2 (I : Inv X pins σ H s) (m : ∀ a o, F a = some o → H a = some o) : ∀ {zs : List Z3} {es : List DictEntry} {ds : List (D × D)} {fp : List Addr}, Paired (EntD X.w) zs es → PReps X.kw F H (zs.map (·.2)) ds fp → zs.map (·.1) = ds.map (·.1.nk) → kOk 2 ds = true →
    ∃ xs, XZ zs xs ∧ es = xs.map (entryOfKey (nestedKind X.prog X.w)) ∧ (∀ x ∈ xs, (nestedKind X.prog X.w).is s.heap x.1 x.2.1) ∧ xs.map (·.1) = zs.map (·.1)
  | [], _, _, _, r, _, _, _ => by cases r; exact ⟨[], .nil, rfl, fun _ z => (nomatch z), rfl⟩
  | _ :: _, _, [], _, _, _, h, _ => by simp at h
  | (zn, zk, zv) :: zs, _, (kd, dd) :: ds, _, r, p, hk, hq => by
    simp only [List.map_cons, List.cons.injEq] at hk
    simp only [kOk, List.all_cons, Bool.and_eq_true, beq_iff_eq] at hq
    obtain ⟨ys, rfl, y1, y2⟩ := kd_2 hq.1
    rw [List.map_cons] at p
    cases p with
    | cons p0 p1 p2 hd =>
      cases r with
      | @cons _ e _ es r rs =>
        obtain ⟨xs, h1, h2, h3, h4⟩ := ent2 I m rs p2 hk.2 (by unfold kOk; exact hq.2)
        obtain ⟨r1, r2, r3⟩ := r
        obtain ⟨b, _, q1, _⟩ := rep_tup m p0
        have q1 : zk = .ref b := q1
        subst q1
        have r2 : e.key = .ref b := r2
        have r1 : e.hash = zn.hash X.w := r1
        have hn := nis I m p0 (by simpa [D.hs] using y1) (.ref b) rfl
        have hk1 : zn = (D.tup ys).nk := hk.1
        refine ⟨(zn, b, e.val) :: xs, .cons ⟨rfl, rfl, r3⟩ h1, ?_, fun y hy => ?_, by rw [List.map_cons, List.map_cons, h4]⟩
        · rw [List.map_cons, ← h2]
          congr 1
          unfold entryOfKey
          cases e
          simp only [DictEntry.mk.injEq] at *
          exact ⟨r1, r2, trivial⟩
        · rcases List.mem_cons.mp hy with z | z
          · subst z
            refine ⟨by rw [hk1]; exact hn, ?_⟩
            show zn.depth ≤ 8
            rw [hk1, nk_dep _ (by simpa [D.hs] using y1)]
            simp only [D.dep]
            omega
          · exact h3 y z
theorem ent2_back {xs : List (NestedKey × Addr × Value)} (h : XZ zs xs) : Paired (EntD X.w) zs (xs.map (entryOfKey (nestedKind X.prog X.w))) := by
  induction h with
  | nil => exact .nil
  | @cons z x zs xs h _ ih =>
    rw [List.map_cons]
    refine .cons ⟨?_, ?_, h.2.2⟩ ih
    · show (nestedKind X.prog X.w).hash x.1 = _
      rw [h.1]
      rfl
    · rw [h.2.1]; exact rfl
theorem do_get (I : Inv X pins σ H s) (h : H a = some (DO a o)) : s.heap.get? a = some o := (I.hok a _ h).1
theorem do_new {P : Program} {w : World} {H' : Hp} {h' : Heap} {o' : Obj} (e : h'.get? a = some o') : ObjOk P w H' h' a (DO a o') := ⟨e, ⟨_, e⟩, fun h1 h2 p k => k _ p⟩
theorem do_write {h' : Heap} {o' : Obj} {t : Nat} (I : Inv X pins σ H s) (h : H a = some (DO a o)) (hs : Heap.SameBut a s.heap h') (e : h'.get? a = some o') : Inv X pins σ (upd H a (DO a o')) { s with heap := h', toks := t } :=
  I.write (x := a) (e := a) (by rw [h]; exact True.intro) (.inl rfl) (fun b q hb z => (hs.2 b hb).trans z) ⟨_, e⟩ (do_new e)
theorem dict1 (I : Inv X pins σ H s) (h : H a = some (DO a o)) (ok : DOk X.w o a zs) (p : PReps X.kw F H (zs.map (·.2)) ds fp) (hk : zs.map (·.1) = ds.map (·.1.nk)) (hq : kOk 1 ds = true) : ∃ kvs, KZ zs kvs ∧ s.heap.DictOf (strKind X.prog X.w) a kvs := by
  obtain ⟨es, ep, e1, e2⟩ := ok.es
  obtain ⟨kvs, h1, h2, h3, h4⟩ := ent1 (P := X.prog) e2 p hk hq
  refine ⟨kvs, h1, o, es, ep, do_get I h, ok.ex, e1, fun e he => h3 e (Array.mem_toList_iff.mpr he), h2, ?_⟩
  have n := ok.nd
  rw [← h4] at n
  have n2 : ((kvs.map (·.1)).map NestedKey.text).Nodup := by rw [List.map_map]; exact n
  exact List.Pairwise.of_map NestedKey.text (fun a b (hne : NestedKey.text a ≠ NestedKey.text b) e => hne (congrArg _ e)) n2
theorem dict2 (I : Inv X pins σ H s) (m : ∀ a o, F a = some o → H a = some o) (h : H a = some (DO a o)) (ok : DOk X.w o a zs) (p : PReps X.kw F H (zs.map (·.2)) ds fp) (hk : zs.map (·.1) = ds.map (·.1.nk)) (hq : kOk 2 ds = true) :
    ∃ xs, XZ zs xs ∧ s.heap.DictOfH (nestedKind X.prog X.w) a xs := by
  obtain ⟨es, ep, e1, e2⟩ := ok.es
  obtain ⟨xs, h1, h2, h3, h4⟩ := ent2 I m e2 p hk hq
  exact ⟨xs, h1, o, es, ep, do_get I h, ok.ex, e1, h2, h3, by rw [h4]; exact ok.nd⟩
theorem dok1 {h' : Heap} {kvs : List (Str × Value)} (hz : KZ zs kvs) (d : h'.DictOf (strKind X.prog X.w) a kvs) (nd : (zs.map (·.1)).Nodup) (sm : (a == sysModules) = false) (sz : zs.length ≤ sizeLine) : ∃ o', h'.get? a = some o' ∧ DOk X.w o' a zs := by
  obtain ⟨o', es, ep, h1, h2, h3, h4, h5, _⟩ := d
  exact ⟨o', h1, h2, ⟨es, ep, h3, ent1_back hz h5 fun e he => h4 e (Array.mem_toList_iff.mp he)⟩, nd, sm, sz⟩
theorem dok2 {h' : Heap} {xs : List (NestedKey × Addr × Value)} (hz : XZ zs xs) (d : h'.DictOfH (nestedKind X.prog X.w) a xs) (nd : (zs.map (·.1)).Nodup) (sm : (a == sysModules) = false) (sz : zs.length ≤ sizeLine) : ∃ o', h'.get? a = some o' ∧ DOk X.w o' a zs := by
  obtain ⟨o', es, ep, h1, h2, h3, h4, h5, _⟩ := d
  exact ⟨o', h1, h2, ⟨es, ep, h3, by rw [h4]; exact ent2_back hz⟩, nd, sm, sz⟩
theorem str_is {x : List Nat} {u : Value} (r : RelV (.str (SX.S x)) u) : (strKind X.prog X.w).is (SX.S x) u = true := by
  obtain ⟨t, rfl⟩ := r
  exact ent1.kV_str _ _
/-- a dict is there -/
structure Dct (X : Cx) (F H : Hp) (a : Addr) (o : Obj) (zs : List Z3) (ds : List (D × D)) (fp : List Addr) : Prop where
  at_ : H a = some (DO a o)
  ok : DOk X.w o a zs
  p : PReps X.kw F H (zs.map (·.2)) ds fp
  k : zs.map (·.1) = ds.map (·.1.nk)
theorem rep_dct {v : V} {b : Bool} (m : ∀ a o, F a = some o → H a = some o) (r : Rep X.kw F H v (.dct b ds) fp) : ∃ a o zs fq, v = .ref a ∧ Dct X F H a o zs ds fq ∧ (∀ c ∈ fq, c ∈ fp) ∧ ∃ n, n ≠ 0 ∧ kOk n ds = true := by
  cases r with
  | dctF h ok hs hk q => exact ⟨_, _, _, [], rfl, ⟨m _ _ h, ok, hs, hk⟩, fun _ z => z, q⟩
  | dctO h hf ok hs hk q hn => exact ⟨_, _, _, _, rfl, ⟨h, ok, hs, hk⟩, fun c z => List.mem_cons_of_mem _ z, q⟩
theorem kin_ok {x : D} (h : kin ds x = true) : x.kd ≠ 0 ∧ kOk x.kd ds = true := by
  unfold kin at h
  rw [Bool.and_eq_true] at h
  refine ⟨fun e => ?_, h.2⟩
  rw [e] at h
  simp at h
/-- what stands at a key -/
theorem d_look {A : Around} {E : Value → Shared → Prop} {x : D} {fx : List Addr} {xv : V} {u : Value} (hu : A.units + 65 < cLine) (I : Inv X pins σ H s) (m : ∀ a o, F a = some o → H a = some o) (d : Dct X F H a o zs ds fp) (hx : kin ds x = true) (rx : Rep X.kw F H xv x fx) (ru : RelV xv u) :
    (∃ x1 kvs, x = .str x1 ∧ (strKind X.prog X.w).is (SX.S x1) u = true ∧ s.heap.DictOf (strKind X.prog X.w) a kvs ∧ KZ zs kvs ∧
      ((∀ d, dget ds x = some d → ∃ v w fq, valueAt kvs (SX.S x1) = some w ∧ RelV v w ∧ Rep X.kw F H v d fq ∧ ∀ a ∈ fq, a ∈ fp) ∧ (dget ds x = none → valueAt kvs (SX.S x1) = none))) ∨
    ∃ b xs, u = .ref b ∧ (nestedKind X.prog X.w).room A.in1 ∧ (nestedKind X.prog X.w).is s.heap x.nk b ∧ xv = .ref b ∧ s.heap.DictOfH (nestedKind X.prog X.w) a xs ∧ XZ zs xs ∧
      ((∀ d, dget ds x = some d → ∃ v w fq c, atKey xs x.nk = some (c, w) ∧ RelV v w ∧ Rep X.kw F H v d fq ∧ ∀ a ∈ fq, a ∈ fp) ∧ (dget ds x = none → atKey xs x.nk = none)) := by
  obtain ⟨h0, hq⟩ := kin_ok hx
  have hh := kd_hs h0
  rcases kd_12 x with h | h | h
  · exact absurd h h0
  · obtain ⟨x1, rfl⟩ := kd_1 h
    rw [h] at hq
    obtain ⟨kvs, k1, k2⟩ := dict1 I d.at_ d.ok d.p d.k hq
    obtain ⟨l1, l2⟩ := look (by decide) d.p d.k k1.uz hq hh
    obtain ⟨rfl, _, _⟩ := rep_str rx
    have e := valueAt_text (SX.S x1) kvs
    refine .inl ⟨x1, kvs, rfl, str_is ru, k2, k1, fun d hd => ?_, fun hd => ?_⟩
    · obtain ⟨v, w, fq, q1, q2⟩ := l1 d hd
      exact ⟨v, w, fq, e.symm.trans q1, q2⟩
    · exact e.symm.trans (l2 hd)
  · obtain ⟨ys, rfl, y1, y2⟩ := kd_2 h
    rw [h] at hq
    obtain ⟨xs, k1, k2⟩ := dict2 I m d.at_ d.ok d.p d.k hq
    obtain ⟨l1, l2⟩ := look (by decide) d.p d.k k1.uz hq hh
    obtain ⟨b, _, rfl, _⟩ := rep_tup m rx
    have hn := nis I m rx hh u ru
    have eu : u = .ref b := ru
    subst eu
    refine .inr ⟨b, xs, rfl, ?_, ⟨hn, ?_⟩, rfl, k2, k1, fun d hd => ?_, fun hd => ?_⟩
    · show A.units + 1 + 8 < cLine
      omega
    · rw [nk_dep _ hh]; simp only [D.dep]; omega
    · obtain ⟨v, w, fq, q1, q2⟩ := l1 d hd
      rw [valueAt_pairsH, Option.map_eq_some_iff] at q1
      obtain ⟨⟨c, w'⟩, q3, q4⟩ := q1
      have q4 : w' = w := q4
      subst q4
      exact ⟨v, w', fq, c, q3, q2⟩
    · have q := l2 hd
      rw [valueAt_pairsH] at q
      exact Option.map_eq_none_iff.mp q
end
end Z

set_option Elab.async false
set_option linter.all false
set_option maxRecDepth 100000
/-! Dicts: rules. -/
namespace Z
open PySem PySem.Spec PyProof.Rows L2
section
variable {X : Cx} {pins : List (Addr × Obj)} {σ : L2.St} {F H : Hp} {s : Shared} {ds : List (D × D)} {fp1 fp2 : List Addr} {x y : V} {v u : Value} {d1 : D} {b : Bool} {Q : VK}
theorem in_dct (hu : X.A.units + 65 < cLine) (I : Inv X pins σ H s) (m : ∀ a o, F a = some o → H a = some o) (r1 : Rep X.kw F H x d1 fp1) (r2 : Rep X.kw F H y (.dct b ds) fp2) (rx : RelV x v) (ry : RelV y u) (hk : kin ds d1 = true) (q : Q (.bl (dget ds d1).isSome) H) :
    wpAny (model X.prog X.w) X.A (compareOp .In v u) (EP X pins σ Q) X.xe s := by
  obtain ⟨a, o, zs, fq, rfl, dc, _, _⟩ := rep_dct m r2
  obtain rfl : u = Value.ref a := ry
  rcases d_look (X := X) (A := X.A) (E := X.xe) hu I m dc hk r1 rx with ⟨x1, kvs, rfl, h1, h2, _, h3, h4⟩ | ⟨c, xs, rfl, h0, h1, _, h2, _, h3, h4⟩
  · refine wpAny_in_of h1 dc.ok.sm h2.mapOf ?_
    have e : (valueAt kvs (SX.S x1)).isSome = (dget ds (.str x1)).isSome := by
      cases g : dget ds (.str x1) with
      | none => rw [h4 g]; rfl
      | some d => obtain ⟨_, w, _, q1, _⟩ := h3 d g; rw [q1]; rfl
    rw [e]
    exact ⟨.bl _, H, I.tok _, rfl, q⟩
  · refine wpAny_in_heap h0 h1 dc.ok.sm h2 ?_
    have e : (atKey xs d1.nk).isSome = (dget ds d1).isSome := by
      cases g : dget ds d1 with
      | none => rw [h4 g]; rfl
      | some d => obtain ⟨_, w, _, _, q1, _⟩ := h3 d g; rw [q1]; rfl
    rw [e]
    exact ⟨.bl _, H, I.tok _, rfl, q⟩
theorem notin_dct (hu : X.A.units + 65 < cLine) (I : Inv X pins σ H s) (m : ∀ a o, F a = some o → H a = some o) (r1 : Rep X.kw F H x d1 fp1) (r2 : Rep X.kw F H y (.dct b ds) fp2) (rx : RelV x v) (ry : RelV y u) (hk : kin ds d1 = true) (q : Q (.bl (!(dget ds d1).isSome)) H) :
    wpAny (model X.prog X.w) X.A (compareOp .NotIn v u) (EP X pins σ Q) X.xe s := by
  obtain ⟨a, o, zs, fq, rfl, dc, _, _⟩ := rep_dct m r2
  obtain rfl : u = Value.ref a := ry
  rcases d_look (X := X) (A := X.A) (E := X.xe) hu I m dc hk r1 rx with ⟨x1, kvs, rfl, h1, h2, _, h3, h4⟩ | ⟨c, xs, rfl, h0, h1, _, h2, _, h3, h4⟩
  · refine wpAny_notIn_of h1 dc.ok.sm h2.mapOf ?_
    have e : (valueAt kvs (SX.S x1)).isSome = (dget ds (.str x1)).isSome := by
      cases g : dget ds (.str x1) with
      | none => rw [h4 g]; rfl
      | some d => obtain ⟨_, w, _, q1, _⟩ := h3 d g; rw [q1]; rfl
    rw [e]
    exact ⟨.bl _, H, I.tok _, rfl, q⟩
  · refine wpAny_notIn_heap h0 h1 dc.ok.sm h2 ?_
    have e : (atKey xs d1.nk).isSome = (dget ds d1).isSome := by
      cases g : dget ds d1 with
      | none => rw [h4 g]; rfl
      | some d => obtain ⟨_, w, _, _, q1, _⟩ := h3 d g; rw [q1]; rfl
    rw [e]
    exact ⟨.bl _, H, I.tok _, rfl, q⟩
theorem dct_type {a : Addr} {o : Obj} {zs : List Z3} (I : Inv X pins σ H s) (d : Dct X F H a o zs ds fp1) : s.TypeIs (.ref a) "dict" := ⟨o, do_get I d.at_, d.ok.ex.1⟩
theorem ix_dct {value slice : Expr} {d : D} (hu : X.A.units + 65 < cLine) (I : Inv X pins σ H s) (m : ∀ a o, F a = some o → H a = some o) (r1 : Rep X.kw F H x (.dct b ds) fp1) (r2 : Rep X.kw F H y d1 fp2) (rx : RelV x v) (ry : RelV y u) (hk : kin ds d1 = true) (hd : dget ds d1 = some d)
    (q : ∀ z fq, Rep X.kw F H z d fq → (∀ c ∈ fq, c ∈ fp1) → Q z H) (hs : subscripted slice false v u = operate [v, u] (getItem v u)) : wpAny (model X.prog X.w) X.A (subscriptTail value slice v u) (EP X pins σ Q) X.xe s := by
  obtain ⟨a, o, zs, fq, rfl, dc, hf, _⟩ := rep_dct m r1
  obtain rfl : v = Value.ref a := rx
  rcases d_look (X := X) (A := X.A) (E := X.xe) hu I m dc hk r2 ry with ⟨x1, kvs, rfl, h1, h2, _, h3, h4⟩ | ⟨c, xs, rfl, h0, h1, _, h2, _, h3, h4⟩
  · obtain ⟨z, w, fr, e1, e2, e3, e4⟩ := h3 d hd
    exact subscriptTail_builtinR (x := w) (dct_type I dc) PySem.F.slot_dict_getitem.lookup (wpAny_getItem_of (Q := fun r s' => r = w ∧ EP X pins σ Q r s') h1 h2.mapOf e1 ⟨rfl, z, H, I.tok _, e2, q z fr e3 fun c hc => hf c (e4 c hc)⟩) hs
  · obtain ⟨z, w, fr, c', e1, e2, e3, e4⟩ := h3 d hd
    exact subscriptTail_builtinR (x := w) (dct_type I dc) PySem.F.slot_dict_getitem.lookup (wpAny_getItem_heap (Q := fun r s' => r = w ∧ EP X pins σ Q r s') h0 h1 h2 e1 ⟨rfl, z, H, I.tok _, e2, q z fr e3 fun c hc => hf c (e4 c hc)⟩) hs
/-- d.get(k, x) -/
theorem get_dct {xd : V} {ud : Value} {dd : D} {fd : List Addr} {r : Value → Shared → Prop} (hu : X.A.units + 65 < cLine) (I : Inv X pins σ H s) (m : ∀ a o, F a = some o → H a = some o) (r1 : Rep X.kw F H x (.dct b ds) fp1) (r2 : Rep X.kw F H y d1 fp2) (rx : RelV x v) (ry : RelV y u) (hk : kin ds d1 = true)
    (q1 : ∀ d z w fq, dget ds d1 = some d → Rep X.kw F H z d fq → (∀ c ∈ fq, c ∈ fp1) → RelV z w → ∀ t, r w { s with toks := t }) (q2 : dget ds d1 = none → ∀ t, r ud { s with toks := t }) : wpAny (model X.prog X.w) X.A (call (.builtin "dict.get") [v, u, ud]) r X.xe s := by
  obtain ⟨a, o, zs, fq, rfl, dc, hf, _⟩ := rep_dct m r1
  obtain rfl : v = Value.ref a := rx
  rcases d_look (X := X) (A := X.A) (E := X.xe) hu I m dc hk r2 ry with ⟨x1, kvs, rfl, h1, h2, _, h3, h4⟩ | ⟨c, xs, rfl, h0, h1, _, h2, _, h3, h4⟩
  · refine call_meetsIn PySem.F.slot_dict_get h2.typeIs PySem.F.entry_dict_get (PySem.F.args_dict_get_3 _ _ _) (meets_dict_get_default (strKind X.prog X.w) a h1 dc.ok.sm ud) ⟨_, h2.mapOf, ?_⟩
    cases g : dget ds (.str x1) with
    | none => rw [h4 g]; exact q2 g _
    | some d => obtain ⟨z, w, fr, e1, e2, e3, e4⟩ := h3 d g; rw [e1]; exact q1 d z w fr g e3 (fun c hc => hf c (e4 c hc)) e2 _
  · refine call_meetsIn PySem.F.slot_dict_get h2.typeIs PySem.F.entry_dict_get (PySem.F.args_dict_get_3 _ _ _) (meetsH_dict_get_default (nestedKind X.prog X.w) a c dc.ok.sm ud) ⟨h0, _, xs, h1, h2, ?_⟩
    cases g : dget ds d1 with
    | none => rw [h4 g]; exact q2 g _
    | some d => obtain ⟨z, w, fr, c', e1, e2, e3, e4⟩ := h3 d g; rw [e1]; exact q1 d z w fr g e3 (fun c hc => hf c (e4 c hc)) e2 _
end
end Z

set_option Elab.async false
set_option linter.all false
set_option maxRecDepth 100000
/-! Dicts: stores, len, list, walks. -/
namespace Z
open PySem PySem.Spec PyProof.Rows L2
section
variable {X : Cx} {pins : List (Addr × Obj)} {σ : L2.St} {F H : Hp} {s : Shared} {ds : List (D × D)} {fp : List Addr}
/-- d[k] = y -/
theorem d_set {A : Around} {E : Value → Shared → Prop} {a : Addr} {o : Obj} {zs : List Z3} {x y : D} {fx fy : List Addr} {xv yv : V} {u r : Value} {Q : Unit → Shared → Prop} (hu : A.units + 65 < cLine) (I : Inv X pins σ H s) (m : ∀ a o, F a = some o → H a = some o) (dc : Dct X F H a o zs ds fp)
    (hx : kin ds x = true) (hl : ds.length < SL) (rx : Rep X.kw F H xv x fx) (ru : RelV xv u) (ry : Rep X.kw F H yv y fy) (rr : RelV yv r) (hy : ∀ c ∈ fy, c ∉ fp)
    (h : ∀ o' fp' zs' s', Inv X pins σ (upd H a (DO a o')) s' → DOk X.w o' a zs' → PReps X.kw F H (zs'.map (·.2)) (dput ds x y) fp' → zs'.map (·.1) = (dput ds x y).map (·.1.nk) → kOk x.kd (dput ds x y) = true → (∀ c ∈ fp', c ∈ fp ∨ c ∈ fy) → Q () s') :
    wpAny (model X.prog X.w) A (setItem (.ref a) u r) Q E s := by
  obtain ⟨h0, hq⟩ := kin_ok hx
  have hzl : zs.length = ds.length := by have := congrArg List.length dc.k; simpa using this
  have hsl := sl_eq
  have rx0 : Rep X.kw F H xv x [] := by
    have e : fx = [] := by
      refine rx.noown ?_
      rcases kd_12 x with q | q | q
      · exact absurd q h0
      · obtain ⟨_, rfl⟩ := kd_1 q; rfl
      · obtain ⟨ys, rfl, y1, _⟩ := kd_2 q
        have key : ∀ ys : List D, hsL ys = true → ownL ys = false := by
          intro ys
          have k2 : ∀ d : D, d.hs = true → d.own = false := fun d hd => by
            have := hs_frz d hd
            rw [← this]
            exact own_frz d
          induction ys with
          | nil => intro _; rfl
          | cons z zs ih =>
            intro hz
            simp only [hsL, Bool.and_eq_true] at hz
            simp only [ownL, k2 z hz.1, ih hz.2, Bool.or_self]
        exact key ys y1
    rw [← e]; exact rx
  obtain ⟨fp', q1, q2, q3, q4, q5, q6⟩ := preps_put h0 dc.p dc.k hq rfl dc.ok.nd rx0 ry hy
  rcases d_look (X := X) (A := A) (E := E) hu I m dc hx rx ru with ⟨x1, kvs, rfl, h1, h2, kz, _⟩ | ⟨b, xs, rfl, h0', h1, rfl, h2, xz, _⟩
  · obtain ⟨rfl, _, _⟩ := rep_str rx
    have hkl : kvs.length = zs.length := (Paired.length kz).symm
    refine wpAny_setItem_pairs (hsz := by rw [hkl]; exact dc.ok.sz) h1 h2 fun h' d' hs => ?_
    obtain ⟨o', e1, e2⟩ := dok1 (X := X) (kz.put (SX.S x1) rr) d' q4 dc.ok.sm (Nat.le_trans q5 (show zs.length + 1 ≤ sizeLine by omega))
    exact h o' fp' _ _ (do_write I dc.at_ hs e1) e2 q1 q2 q3 q6
  · have hkl : xs.length = zs.length := (Paired.length xz).symm
    refine wpAny_setItem_heap (hsz := by rw [hkl]; exact dc.ok.sz) h0' h1 h2 fun h' d' hs => ?_
    obtain ⟨o', e1, e2⟩ := dok2 (X := X) (xz.put x.nk rr) d' q4 dc.ok.sm (Nat.le_trans q5 (show zs.length + 1 ≤ sizeLine by omega))
    exact h o' fp' _ _ (do_write I dc.at_ hs e1) e2 q1 q2 q3 q6
where
  own_frz : ∀ d : D, d.frz.own = false
    | .non => rfl
    | .bl _ => rfl
    | .int _ => rfl
    | .str _ => rfl
    | .tup xs => own_frzL xs
    | .lst _ xs => by simp [D.frz, D.own, own_frzL xs]
    | .dct _ xs => by simp [D.frz, D.own, own_frzP xs]
    | .set _ xs => by simp [D.frz, D.own, own_frzL xs]
    | .ins _ _ xs => by simp [D.frz, D.own, own_frzF xs]
  own_frzL : ∀ xs : List D, ownL (frzL xs) = false
    | [] => rfl
    | x :: xs => by simp [frzL, ownL, own_frz x, own_frzL xs]
  own_frzP : ∀ xs : List (D × D), ownP (frzP xs) = false
    | [] => rfl
    | (x, y) :: xs => by simp [frzP, ownP, own_frz x, own_frz y, own_frzP xs]
  own_frzF : ∀ xs : List (Nat × D), ownF (frzF xs) = false
    | [] => rfl
    | (x, y) :: xs => by simp [frzF, ownF, own_frz y, own_frzF xs]
theorem len_dct {v : V} {u : Value} {b : Bool} {Q : VK} (I : Inv X pins σ H s) (m : ∀ a o, F a = some o → H a = some o) (r : Rep X.kw F H v (.dct b ds) fp) (ru : RelV v u) (q : Q (.int ds.length) H) : wpAny (model X.prog X.w) X.A (call (.builtin "len") [u]) (EP X pins σ Q) X.xe s := by
  obtain ⟨a, o, zs, fq, rfl, dc, _, _⟩ := rep_dct m r
  obtain rfl : u = Value.ref a := ru
  obtain ⟨es, ep, e1, e2⟩ := dc.ok.es
  have hr : s.heap.DictRaw a es ep := ⟨o, do_get I dc.at_, dc.ok.ex, e1⟩
  have hzl : zs.length = ds.length := by have := congrArg List.length dc.k; simpa using this
  have hel : es.size = zs.length := by have := Paired.length e2; simpa using this.symm
  have hz := dc.ok.sz
  rw [sizeLine_eq] at hz
  refine PyProof.Rows.call_len_slot (n := (ds.length : Int)) (dct_type I dc) PySem.F.slot_dict_len (fun Q' hq => call_len_raw dc.ok.sm hr ?_) (by omega) (by omega) ?_
  · rw [hel, hzl]; exact hq
  · exact ⟨.int ds.length, H, I.tok _, ⟨_, rfl⟩, q⟩
theorem keys_vals {w : World} {F H : Hp} {K : Kw} : ∀ {zs : List Z3} {es : List DictEntry}, Paired (EntD w) zs es → Vals (zs.map (·.2.1)) (es.map (·.key))
  | _, _, .nil => .nil
  | _, _, .cons h t => .cons h.2.1 (keys_vals (F := F) (H := H) (K := K) t)
theorem keys_reps {F H : Hp} {K : Kw} : ∀ {zs : List Z3} {ds : List (D × D)} {fp : List Addr}, PReps K F H (zs.map (·.2)) ds fp → Reps K F H (zs.map (·.2.1)) (dkeys ds) []
  | [], [], _, _ => .nil
  | [], _ :: _, _, h => by cases h
  | (zn, zk, zv) :: zs, [], _, h => by cases h
  | (zn, zk, zv) :: zs, (kd, dd) :: ds, _, h => by
    rw [List.map_cons] at h
    cases h with
    | cons p0 p1 p2 hd => exact Reps.cons0 p0 (keys_reps p2)
theorem list_dct {v : V} {u : Value} {b : Bool} {Q : VK} (hc : X.calm = true) (I : Inv X pins σ H s) (m : ∀ a o, F a = some o → H a = some o) (r : Rep X.kw F H v (.dct b ds) fp) (ru : RelV v u)
    (q : ∀ p vs, H p = none → Reps X.kw F H vs (dkeys ds) [] → Q (.ref p) (upd H p (.lst vs))) : wpAny (model X.prog X.w) X.A (call (.type "list") [u]) (EP X pins σ Q) X.xe s := by
  obtain ⟨a, o, zs, fq, rfl, dc, _, _⟩ := rep_dct m r
  obtain rfl : u = Value.ref a := ru
  obtain ⟨es, ep, e1, e2⟩ := dc.ok.es
  have hzl : zs.length = ds.length := by have := congrArg List.length dc.k; simpa using this
  have hel : es.size = zs.length := by have := Paired.length e2; simpa using this.symm
  refine PySem.W.kdl_call (kdl_raw dc.ok.sm dc.ok.ex e1) (I.ok.hd hc) (do_get I dc.at_) (by rw [hel]; exact dc.ok.sz) fun h' tk acc' c' kp e it => ?_
  have ea : acc'.toList = es.toList.map (·.key) := by
    have hl : acc'.toList.length = es.size := by rw [Array.length_toList, it.1]
    apply List.ext_getElem?
    intro j
    rw [List.getElem?_map]
    cases hj : acc'.toList[j]? with
    | none =>
      have h1 := List.getElem?_eq_none_iff.mp hj
      rw [List.getElem?_eq_none (by rw [Array.length_toList]; omega)]
      rfl
    | some w =>
      obtain ⟨en, hen, hv⟩ := it.2 j w (by rw [← Array.getElem?_toList]; exact hj)
      rw [Array.getElem?_toList, hen, hv]
      rfl
  have rv : Vals (zs.map (·.2.1)) acc'.toList := by rw [ea]; exact keys_vals (F := F) (H := H) (K := X.kw) e2
  have hz : (zs.map (·.2.1)).length ≤ sizeLine := by rw [List.length_map]; exact dc.ok.sz
  refine ⟨.ref s.heap.objs.size, _, I.laid (t' := tk) (o := .lst (zs.map (·.2.1))) kp (Nat.le_refl _) ?_, rfl, q _ _ (I.hok.fresh (Nat.le_refl _)) (keys_reps dc.p)⟩
  exact ⟨hz, acc'.toList, c', rv, by rw [Array.toArray_toList]; exact e⟩
end
/-! ### walks -/
/-- the keys of the dict o at d -/
def Itq (d : Addr) (o : Obj) (ks : List V) : It := ⟨fun i H => H d = some (DO d o) ∧ i < ks.length, fun i H x H' => H' = H ∧ ks[i]? = some x, fun i H => H d = some (DO d o) ∧ ks.length ≤ i⟩
section
variable {P : Program} {w : World} {K : PySem.W.Frag} {tg : Expr} {d : Addr} {o : Obj} {es : Array DictEntry} {ep : Nat}
theorem turn_q {ks : List V} (it : Addr) (hod : o.data = .dict es ep) (hv : Vals ks (es.toList.map (·.key))) : Turn P w K tg (Itq d o ks) [it] it (fun i h => h.IsKeyIter it d i ks.length ep) where
  mem := by simp
  obj := fun i h st b hb => by
    have e : b = it := by simpa using hb
    subst e
    obtain ⟨oi, e, c, dd⟩ := st
    exact ⟨oi, e, fun v z => by rw [dd] at z; cases z⟩
  keep := fun i h h' st k => st.at fun oi e => k it (by simp) oi e
  item := by
    intro X hP hw hK hc i pins s σ H E I hf st hg
    subst hP hw hK
    obtain ⟨hd, hi⟩ := hg
    obtain ⟨f0, f1, f2, f3, f4, f5⟩ := hf it (by simp)
    have hgd := do_get I hd
    have hl := hv.length
    rw [List.length_map, Array.length_toList (xs := es)] at hl
    have hen : es[i]? = some es[i] := Array.getElem?_eq_getElem (by omega)
    obtain ⟨u, hu, ru⟩ := hv.get (i := i) (x := ks[i]) (List.getElem?_eq_getElem hi)
    have hu2 : u = es[i].key := by
      rw [List.getElem?_map, Array.getElem?_toList, hen] at hu
      exact (Option.some.inj hu).symm
    subst hu2
    refine next_key_item st hgd hod hl.symm hen fun h' st' sb => ?_
    have I1 : Inv X pins σ H { s with heap := h' } := I.turned (t' := s.toks) (fun b ob hb e => (sb.2 b hb).trans e) f0 f1 f3 f4 f5
    obtain ⟨oi, e, c, dd⟩ := id st'
    exact ⟨_, rfl, go_of (s := { s with heap := h' }) e c dd (by decide) ⟨ks[i], H, I1, ru, ⟨rfl, List.getElem?_eq_getElem hi⟩, st', fun b hb => (hf b hb).1⟩⟩
  done := by
    intro X hP hw hK hc i pins s σ H E I hf st hg
    subst hP hw hK
    obtain ⟨hd, hi⟩ := hg
    obtain ⟨f0, f1, f2, f3, f4, f5⟩ := hf it (by simp)
    have hl := hv.length
    rw [List.length_map, Array.length_toList (xs := es)] at hl
    exact next_key_end (I.ok.hd hc) st (do_get I hd) hod hl.symm hi fun h' eb => ⟨rfl, I.turned (t' := s.toks) (fun b ob hb e => eb b ob hb e) f0 f1 f3 f4 f5⟩
  self := fun A i s Q E st h => by
    refine wpAny_pyIter_slot st.typeIs F.slot_dict_keyiterator_iter (wpAny_call_entry F.slot_dict_keyiterator_iter st.typeIs F.entry_dict_keyiterator_iter ?_ (F.args_dict_keyiterator_iter_1 _))
    show wpAny _ _ (ret (.ref it)) _ _ s
    exact wpAny_pure ⟨_, rfl, "dict_keyiterator", _, st.typeIs, F.slot_dict_keyiterator_next.lookup, h⟩
end
def iDct (td : TE) : TI := fun σ H R => td σ H fun x H1 => ∃ d o es ep ks, x = .ref d ∧ H1 d = some (DO d o) ∧ (d == sysModules) = false ∧ o.ExactDict ∧ o.data = .dict es ep ∧ Vals ks (es.toList.map (·.key)) ∧ R (Itq d o ks) H1
theorem pi_dct {X : Cx} {tg e : Expr} {td : TE} (he : PE X e td) : PI X tg e (iDct td) := by
  refine ⟨fun pins s σ H R I h => ?_⟩
  refine thn (he.run pins s σ H _ I h) fun u s1 ⟨x, H1, I1, rx, d, o, es, ep, ks, ex, hd, hs, hx, hdt, hv, q⟩ => ?_
  subst ex
  obtain rfl : u = Value.ref d := rx
  have hl := hv.length
  rw [List.length_map, Array.length_toList (xs := es)] at hl
  refine iter_keys hs (do_get I1 hd) hx hdt (pi_one (tk := s1.toks) I1 _ (turn_q _ hdt hv) ⟨_, Heap.get?_push_size _ rfl, rfl, ?_⟩ q)
  rw [hl] <;> rfl
end Z

set_option Elab.async false
set_option linter.all false
set_option maxRecDepth 100000
namespace Z
open PySem PySem.Spec PyProof.Rows L2

section
variable {X : Cx}
theorem infix_iff (p t : List Nat) : infixB p t = true ↔ ∃ i, i + p.length ≤ t.length ∧ (t.drop i).take p.length = p := by
  induction t with
  | nil =>
    simp only [infixB, List.isEmpty_iff]
    constructor
    · intro h; subst h; exact ⟨0, by simp, by simp⟩
    · rintro ⟨i, h, _⟩
      simp only [List.length_nil] at h
      exact List.length_eq_zero_iff.mp (by omega)
  | cons c s ih =>
    simp only [infixB, Bool.or_eq_true, ih]
    constructor
    · rintro (h | ⟨i, h1, h2⟩)
      · have h := List.isPrefixOf_iff_prefix.mp h
        exact ⟨0, by simpa using h.length_le, by simpa using (List.prefix_iff_eq_take.mp h).symm⟩
      · exact ⟨i + 1, by simp only [List.length_cons]; omega, by simpa using h2⟩
    · rintro ⟨i, h1, h2⟩
      cases i with
      | zero =>
        left
        refine List.isPrefixOf_iff_prefix.mpr (List.prefix_iff_eq_take.mpr ?_)
        simpa using h2.symm
      | succ i => exact .inr ⟨i, by simp only [List.length_cons] at h1; omega, by simpa using h2⟩
theorem occ_infix (p t : List Nat) : (!(Builtin.Str.occurrences (SX.S t) (SX.S p) 0 (SX.S t).length 1).isEmpty) = infixB p t := by
  have h := StrLaws.found_iff (SX.S t) (SX.S p)
  have e : (∃ i, i + (SX.S p).length ≤ (SX.S t).length ∧ Builtin.Str.subAt (SX.S t) (SX.S p) i = true) ↔ infixB p t = true := by
    rw [infix_iff]
    simp only [SX.S_len]
    refine exists_congr fun i => and_congr_right fun _ => ?_
    unfold Builtin.Str.subAt
    rw [beq_iff_eq, ← Array.toList_inj]
    simp [Str.length]
  rw [Bool.eq_iff_iff]
  exact h.trans e
theorem or_in (hu : X.A.units + 65 < cLine) : OpR X (compareOp .In) (rO X.kw (op2 .isin) false) := by
  intro pins s σ H x y v u Q I rx ry h
  obtain ⟨F, d1, fp1, d2, fp2, d, m, r1, r2, e, q⟩ := h
  cases d2 <;> simp only [op2, inOf, reduceCtorEq, Option.map_eq_some_iff] at e
  all_goals (obtain ⟨b, e1, e2⟩ := e; cases e2)
  all_goals (try (cases e1; done))
  · cases d1 <;> simp only [reduceCtorEq, Option.some.injEq] at e1
    obtain ⟨rfl, _, _⟩ := rep_str r1
    obtain ⟨rfl, _, _⟩ := rep_str r2
    refine op_in_str pins s σ H _ _ v u Q I rx ry ⟨_, _, rfl, rfl, ?_⟩
    rw [occ_infix, e1]
    exact give_bl m q
  · split at e1
    · rename_i ys hd
      cases e1
      have D1 := r1.dp m (by omega)
      have D2 := r2.dp m (by simp only [D.dep]; omega)
      obtain ⟨as, q1⟩ := Dp.reads I _ x v D1 rx
      obtain ⟨bs, q2⟩ := Dp.reads I _ y u D2 ry
      refine SeqAt.in_tuple_reads (by simpa only [D.py] using q2) q1 (SeqAt.canLay_of_shaped (r2.shaped (by simp only [D.dep]; omega)) |> fun z => by simpa only [D.py, PyData.canLay0] using z) (r1.lay (by omega)) ?_ ⟨.bl _, H, I, rfl, ?_⟩
      · have e1 := py_dep d1 (by omega)
        omega
      · rw [any_py (by omega) (by omega)]
        exact give_bl m q
    · cases e1
  · split at e1
    · rename_i o ys hd
      cases e1
      refine op_inD hu pins s σ H x y v u Q I rx ry ⟨d1.py, pyL _, r1.dp m (by omega), (by have z := r2.dp m (by simp only [D.dep]; omega); simpa only [D.py] using z), r1.shaped (by omega), (by have z := r2.shaped (by simp only [D.dep]; omega); simpa only [D.py] using z), ?_⟩
      rw [any_py (by omega) (by omega)]
      exact give_bl m q
    · cases e1
  · rename_i o kvs
    split at e1
    · rename_i hk
      cases e1
      exact in_dct hu I m r1 r2 rx ry hk (give_bl m q)
    · cases e1
end
end Z

set_option Elab.async false
set_option linter.all false
set_option maxRecDepth 100000
namespace Z
open PySem PySem.Spec PyProof.Rows L2

section
variable {X : Cx}
theorem or_notin (hu : X.A.units + 65 < cLine) : OpR X (compareOp .NotIn) (rO X.kw (op2 .notin) false) := by
  intro pins s σ H x y v u Q I rx ry h
  obtain ⟨F, d1, fp1, d2, fp2, d, m, r1, r2, e, q⟩ := h
  cases d2 <;> simp only [op2, inOf, reduceCtorEq, Option.map_eq_some_iff] at e
  all_goals (obtain ⟨b, e1, e2⟩ := e; cases e2)
  all_goals (try (cases e1; done))
  · cases d1 <;> simp only [reduceCtorEq, Option.some.injEq] at e1
    obtain ⟨rfl, _, _⟩ := rep_str r1
    obtain ⟨rfl, _, _⟩ := rep_str r2
    refine op_notIn_str pins s σ H _ _ v u Q I rx ry ⟨_, _, rfl, rfl, ?_⟩
    rw [occ_infix, e1]
    exact give_bl m q
  · split at e1
    · rename_i ys hd
      cases e1
      have D1 := r1.dp m (by omega)
      have D2 := r2.dp m (by simp only [D.dep]; omega)
      obtain ⟨as, q1⟩ := Dp.reads I _ x v D1 rx
      obtain ⟨bs, q2⟩ := Dp.reads I _ y u D2 ry
      refine SeqAt.notIn_tuple_reads (by simpa only [D.py] using q2) q1 (SeqAt.canLay_of_shaped (r2.shaped (by simp only [D.dep]; omega)) |> fun z => by simpa only [D.py, PyData.canLay0] using z) (r1.lay (by omega)) ?_ ⟨.bl _, H, I, rfl, ?_⟩
      · have e1 := py_dep d1 (by omega)
        omega
      · rw [any_py (by omega) (by omega)]
        exact give_bl m q
    · cases e1
  · split at e1
    · rename_i o ys hd
      cases e1
      refine op_notInD hu pins s σ H x y v u Q I rx ry ⟨d1.py, pyL _, r1.dp m (by omega), (by have z := r2.dp m (by simp only [D.dep]; omega); simpa only [D.py] using z), r1.shaped (by omega), (by have z := r2.shaped (by simp only [D.dep]; omega); simpa only [D.py] using z), ?_⟩
      rw [any_py (by omega) (by omega)]
      exact give_bl m q
    · cases e1
  · rename_i o kvs
    split at e1
    · rename_i hk
      cases e1
      exact notin_dct hu I m r1 r2 rx ry hk (give_bl m q)
    · cases e1
theorem ixOf_eq (n : Nat) (i : Int) : ixOf n i = ixN n i := rfl
theorem at_eq {α : Type} (xs : List α) (i : Int) : at_ xs i = atI xs i := rfl
theorem at_map {α β : Type} {xs : List α} {ys : List β} (h : xs.length = ys.length) {i : Int} {y : β} (e : at_ ys i = some y) : ∃ (j : Nat) (x : α), xs[j]? = some x ∧ ys[j]? = some y ∧ at_ xs i = some x := by
  unfold at_ at e ⊢
  rw [h]
  cases q : ixOf ys.length i with
  | none => rw [q] at e; cases e
  | some j =>
    rw [q] at e
    have e1 : ys[j]? = some y := e
    obtain ⟨hj, _⟩ := List.getElem?_eq_some_iff.mp e1
    exact ⟨j, xs[j], List.getElem?_eq_getElem (by omega), e1, List.getElem?_eq_getElem (by omega)⟩
theorem ir_ix (hu : X.A.units + 65 < cLine) : IxR X (rO X.kw (op2 .ix) true) := by
  intro value slice pins s σ H x y v u Q I rx ry h hs
  obtain ⟨F, d1, fp1, d2, fp2, d, m, r1, r2, e, q⟩ := h
  cases d1 <;> cases d2 <;> simp only [op2, reduceCtorEq] at e
  · rename_i z i
    obtain ⟨rfl, _, a1⟩ := rep_str r1
    obtain ⟨rfl, _⟩ := rep_int r2
    by_cases hl : z.length ≤ SL
    · rw [if_pos hl] at e
      simp only [Option.map_eq_some_iff] at e
      obtain ⟨c, e1, e2⟩ := e
      cases e2
      have hc : c < 128 := by
        obtain ⟨j, _, hj, hj2, _⟩ := at_map (xs := z) rfl e1
        exact asc_mem.mp a1 c (List.mem_of_getElem? hj2)
      exact ix_str value slice pins s σ H _ _ v u Q I rx ry ⟨_, i, c, rfl, rfl, by rw [SX.S_len, sl_eq]; exact hl, e1, give_str m (by simp [asc, hc]) q⟩ hs
    · rw [if_neg hl] at e; cases e
  · rename_i ys i
    obtain ⟨rfl, _⟩ := rep_int r2
    obtain ⟨a, vs, rfl, t0, t1, p1⟩ := rep_tup m r1
    obtain ⟨j, w, hj, hj2, hj3⟩ := at_map p1.len e
    obtain ⟨w', fq, e3, r3, hm⟩ := p1.at_ hj2
    rw [hj] at e3; cases e3
    exact ix_tup value slice pins s σ H _ _ v u Q I rx ry ⟨a, vs, i, w, rfl, rfl, t1, hj3, q _ _ _ _ (Ext.refl m) r3 fun b z => .inr ⟨rfl, hm b z⟩⟩ hs
  · rename_i o ys i
    obtain ⟨rfl, _⟩ := rep_int r2
    obtain ⟨a, vs, f0, rfl, t1, p1, hf⟩ := rep_lst m r1
    obtain ⟨j, w, hj, hj2, hj3⟩ := at_map p1.len e
    obtain ⟨w', fq, e3, r3, hm⟩ := p1.at_ hj2
    rw [hj] at e3; cases e3
    exact ix_list value slice pins s σ H _ _ v u Q I rx ry ⟨a, vs, i, w, rfl, rfl, t1, hj3, q _ _ _ _ (Ext.refl m) r3 fun b z => .inr ⟨rfl, hf b (hm b z)⟩⟩ hs
  all_goals
    split at e
    · rename_i hk
      exact ix_dct hu I m r1 r2 rx ry hk e (fun z fq rz hc => q _ _ _ _ (Ext.refl m) rz fun b zb => .inr ⟨rfl, hc b zb⟩) hs
    · cases e
/-! slices -/
def rSl (K : Kw) : V → Option Int → Option Int → Hp → VK → Prop := fun x l h H Q => ∃ F d1 fp1 d, (∀ a o, F a = some o → H a = some o) ∧ Rep K F H x d1 fp1 ∧ slice2 d1 l h = some d ∧ Give K false fp1 F H d Q
theorem cut_eq {α : Type} (xs : List α) (lo hi : Option Int) : cut xs lo hi = (xs.drop (HT.sIx xs.length 0 lo)).take (HT.sIx xs.length xs.length hi - HT.sIx xs.length 0 lo) := rfl
theorem cut_reps {K : Kw} {F H : Hp} {vs : List V} {ds : List D} (h : Reps K F H vs ds []) (lo hi : Option Int) : Reps K F H (cutV vs lo hi) (cut ds lo hi) [] := by
  unfold cutV
  rw [cut_eq, h.len]
  exact (h.drop0 _).take0 _
theorem cut_whole {α : Type} {xs : List α} {lo hi : Option Int} (h : HT.sIx xs.length 0 lo = 0 ∧ HT.sIx xs.length xs.length hi = xs.length) : cut xs lo hi = xs := by
  rw [cut_eq, h.1, h.2]
  simp
theorem sr_sl : SlR X (rSl X.kw) := by
  intro pins s σ H x v vl vu lo hi sl Q I rx hs pl pu h
  obtain ⟨F, d1, fp1, d, m, r1, e, q⟩ := h
  cases d1 <;> simp only [slice2, reduceCtorEq] at e
  · rename_i z
    obtain ⟨rfl, _, a1⟩ := rep_str r1
    by_cases hl : z.length ≤ SL
    · rw [if_pos hl] at e
      cases e
      have e1 : cutS (SX.S z) lo hi = SX.S (cut z lo hi) := by
        unfold cutS
        rw [SX.S_len]
        rfl
      refine sl_str pins s σ H _ v vl vu lo hi sl Q I rx hs pl pu ⟨_, rfl, by rw [SX.S_len, sl_eq]; exact hl, ?_⟩
      rw [e1]
      refine give_str m (asc_mem.mpr fun c hc => asc_mem.mp a1 c ?_) q
      rw [cut_eq] at hc
      exact List.mem_of_mem_drop (List.mem_of_mem_take hc)
    · rw [if_neg hl] at e; cases e
  · rename_i ys
    by_cases ho : ownL ys = true
    · rw [if_pos ho] at e; cases e
    · rw [if_neg ho] at e
      cases e
      obtain ⟨a, vs, rfl, t0, t1, p1⟩ := rep_tup m r1
      have p1 := fps_nil p1 (own_false ho)
      refine sl_tupP pins s σ H _ v vl vu lo hi sl Q I rx hs pl pu ⟨a, vs, rfl, t1, fun hw => ?_, fun _ p us hp => give_tup m hp (cut_reps p1 lo hi) q⟩
      rw [p1.len] at hw
      rw [cut_whole hw] at q
      exact give_same m (.tup t0 p1) q
  · rename_i o ys
    by_cases ho : ownL ys = true
    · rw [if_pos ho] at e; cases e
    · rw [if_neg ho] at e
      cases e
      obtain ⟨a, vs, f0, rfl, t1, p1, hf⟩ := rep_lst m r1
      have p1 := fps_nil p1 (own_false ho)
      exact sl_list pins s σ H _ v vl vu lo hi sl Q I rx hs pl pu ⟨a, vs, rfl, t1, fun p hp => give_lst m hp (cut_reps p1 lo hi) q⟩
end
end Z

set_option Elab.async false
set_option linter.all false
set_option maxRecDepth 100000
namespace Z
open PySem PySem.Spec PyProof.Rows L2

def r1 (k : V → Hp → VK → Prop) : List V → Hp → VK → Prop := fun xs H Q => ∃ x, xs = [x] ∧ k x H Q
def r2 (k : R2) : List V → Hp → VK → Prop := fun xs H Q => ∃ x y, xs = [x, y] ∧ k x y H Q
def m0 (k : V → Hp → VK → Prop) : V → List V → Hp → VK → Prop := fun x xs H Q => xs = [] ∧ k x H Q
def m1 (k : R2) : V → List V → Hp → VK → Prop := fun x xs H Q => ∃ y, xs = [y] ∧ k x y H Q
section
variable {X : Cx}
theorem cu_len : CallR X (.builtin "len") (r1 (rU X.kw (un1 .len) false)) := by
  intro pins s σ H xs us Q I rs h
  obtain ⟨x, rfl, F, d1, fp1, d, m, r1, e, q⟩ := h
  cases d1 <;> simp only [un1, lenOf, reduceCtorEq, Option.map_none, Option.map_some, Option.some.injEq] at e
  · rename_i z
    obtain ⟨rfl, _, a1⟩ := rep_str r1
    by_cases hl : z.length ≤ SL
    · rw [if_pos hl] at e
      cases e
      exact call_len_str pins s σ H _ us Q I rs ⟨_, rfl, by rw [SX.S_len, sl_eq]; exact hl, by rw [SX.S_len]; exact give_int m q⟩
    · rw [if_neg hl] at e; cases e
  · subst e
    obtain ⟨a, vs, rfl, t0, t1, p1⟩ := rep_tup m r1
    exact call_len_seq pins s σ H _ us Q I rs ⟨a, vs, rfl, .inr t1, by rw [p1.len]; exact give_int m q⟩
  · subst e
    obtain ⟨a, vs, f0, rfl, t1, p1, hf⟩ := rep_lst m r1
    exact call_len_seq pins s σ H _ us Q I rs ⟨a, vs, rfl, .inl t1, by rw [p1.len]; exact give_int m q⟩
  · subst e
    obtain ⟨u, rfl, ru⟩ := vals1 rs
    exact len_dct I m r1 ru (give_int m q)
theorem cu_all (hc : X.calm = true) : CallR X (.builtin "all") (r1 (rU X.kw (un1 .all) false)) := by
  intro pins s σ H xs us Q I rs h
  obtain ⟨x, rfl, F, d1, fp1, d, m, r1, e, q⟩ := h
  cases d1 <;> simp only [un1, reduceCtorEq, Option.map_eq_some_iff] at e
  obtain ⟨bs, e1, e2⟩ := e
  subst e2
  obtain ⟨a, vs, f0, rfl, t1, p1, hf⟩ := rep_lst m r1
  have e3 := reps_bls p1 e1
  subst e3
  exact cr_all hc pins s σ H _ us Q I rs ⟨a, bs, rfl, t1, give_bl m q⟩
theorem cu_any (hc : X.calm = true) : CallR X (.builtin "any") (r1 (rU X.kw (un1 .any) false)) := by
  intro pins s σ H xs us Q I rs h
  obtain ⟨x, rfl, F, d1, fp1, d, m, r1, e, q⟩ := h
  cases d1 <;> simp only [un1, reduceCtorEq, Option.map_eq_some_iff] at e
  obtain ⟨bs, e1, e2⟩ := e
  subst e2
  obtain ⟨a, vs, f0, rfl, t1, p1, hf⟩ := rep_lst m r1
  have e3 := reps_bls p1 e1
  subst e3
  exact cr_any hc pins s σ H _ us Q I rs ⟨a, bs, rfl, t1, give_bl m q⟩
theorem cu_list (hc : X.calm = true) : CallR X (.type "list") (r1 (rU X.kw (un1 .list) false)) := by
  intro pins s σ H xs us Q I rs h
  obtain ⟨x, rfl, F, d1, fp1, d, m, r1, e, q⟩ := h
  cases d1 <;> simp only [un1, reduceCtorEq] at e
  · rename_i ys
    by_cases ho : ownL ys = true
    · rw [if_pos ho] at e; cases e
    · rw [if_neg ho] at e
      cases e
      obtain ⟨a, vs, rfl, t0, t1, p1⟩ := rep_tup m r1
      have p1 := fps_nil p1 (own_false ho)
      exact call_list_of pins s σ H _ us Q I rs ⟨a, vs, rfl, .inr t1, fun p hp => give_lst m hp p1 q⟩
  · rename_i o ys
    by_cases ho : ownL ys = true
    · rw [if_pos ho] at e; cases e
    · rw [if_neg ho] at e
      cases e
      obtain ⟨a, vs, f0, rfl, t1, p1, hf⟩ := rep_lst m r1
      have p1 := fps_nil p1 (own_false ho)
      exact call_list_of pins s σ H _ us Q I rs ⟨a, vs, rfl, .inl t1, fun p hp => give_lst m hp p1 q⟩
  · cases e
    obtain ⟨u, rfl, ru⟩ := vals1 rs
    exact list_dct hc I m r1 ru fun p vs hp hr => give_lst m hp hr q
theorem cu_tuple : CallR X (.type "tuple") (r1 (rU X.kw (un1 .tuple) false)) := by
  intro pins s σ H xs us Q I rs h
  obtain ⟨x, rfl, F, d1, fp1, d, m, r1, e, q⟩ := h
  cases d1 <;> simp only [un1, reduceCtorEq] at e
  · rename_i ys
    by_cases ho : ownL ys = true
    · rw [if_pos ho] at e; cases e
    · rw [if_neg ho] at e
      cases e
      obtain ⟨a, vs, rfl, t0, t1, p1⟩ := rep_tup m r1
      have p1 := fps_nil p1 (own_false ho)
      exact call_tupP pins s σ H _ us Q I rs ⟨a, vs, rfl, .inr ⟨t1, give_same m (.tup t0 p1) q⟩⟩
  · rename_i o ys
    by_cases ho : ownL ys = true
    · rw [if_pos ho] at e; cases e
    · rw [if_neg ho] at e
      cases e
      obtain ⟨a, vs, f0, rfl, t1, p1, hf⟩ := rep_lst m r1
      have p1 := fps_nil p1 (own_false ho)
      exact call_tupP pins s σ H _ us Q I rs ⟨a, vs, rfl, .inl ⟨t1, fun p us hp => give_tup m hp p1 q⟩⟩
theorem cu_int : CallR X (.type "int") (r1 (rU X.kw (un1 .int) false)) := by
  intro pins s σ H xs us Q I rs h
  obtain ⟨x, rfl, F, d1, fp1, d, m, r1, e, q⟩ := h
  cases d1 <;> simp only [un1, reduceCtorEq, Option.some.injEq] at e
  · subst e
    obtain ⟨rfl, _⟩ := rep_bl r1
    exact call_int1 pins s σ H _ us Q I rs (.inr ⟨_, rfl, by
      have z := give_int m q
      unfold b2i at z
      exact z⟩)
  · subst e
    obtain ⟨rfl, _⟩ := rep_int r1
    exact call_int1 pins s σ H _ us Q I rs (.inl ⟨_, rfl, give_int m q⟩)
theorem cu_min (hc : X.calm = true) : CallR X (.builtin "min") (r2 (rO X.kw (op2 .min) false)) := by
  intro pins s σ H xs us Q I rs h
  obtain ⟨x, y, rfl, F, d1, fp1, d2, fp2, d, m, r1, r2, e, q⟩ := h
  cases d1 <;> cases d2 <;> simp only [op2, reduceCtorEq] at e
  obtain ⟨rfl, _⟩ := rep_int r1
  obtain ⟨rfl, _⟩ := rep_int r2
  cases e
  exact call_min2 hc pins s σ H _ us Q I rs ⟨_, _, rfl, give_int m q⟩
theorem cu_max (hc : X.calm = true) : CallR X (.builtin "max") (r2 (rO X.kw (op2 .max) false)) := by
  intro pins s σ H xs us Q I rs h
  obtain ⟨x, y, rfl, F, d1, fp1, d2, fp2, d, m, r1, r2, e, q⟩ := h
  cases d1 <;> cases d2 <;> simp only [op2, reduceCtorEq] at e
  obtain ⟨rfl, _⟩ := rep_int r1
  obtain ⟨rfl, _⟩ := rep_int r2
  cases e
  exact call_max2 hc pins s σ H _ us Q I rs ⟨_, _, rfl, give_int m q⟩
theorem un_negZ : UnR X (unaryOp .USub) (rU X.kw (un1 .neg) false) := by
  intro pins s σ H x v Q I rx h
  obtain ⟨F, d1, fp1, d, m, r1, e, q⟩ := h
  cases d1 <;> simp only [un1, reduceCtorEq, Option.some.injEq] at e
  subst e
  obtain ⟨rfl, _⟩ := rep_int r1
  exact un_neg pins s σ H _ v Q I rx ⟨_, rfl, give_int m q⟩

/-! texts -/
theorem parts_ne (c : Nat) : ∀ s : List Nat, parts c s ≠ []
  | [] => by simp [parts]
  | x :: xs => by
    unfold parts
    split
    · simp
    · split <;> simp
theorem parts_spl (c : Nat) : ∀ (s acc : List Nat), TL.spl [c] 0 acc s = match parts c s with | [] => [acc] | p :: ps => (acc ++ p) :: ps
  | [], acc => by simp [parts, TL.spl_nil]
  | x :: xs, acc => by
    by_cases h : x = c
    · subst h
      rw [TL.spl_hit (by simp [TL.pre])]
      simp only [parts, if_pos, List.length_singleton, Nat.sub_self, List.append_nil]
      rw [parts_spl x xs []]
      cases e : parts x xs with
      | nil => exact absurd e (parts_ne x xs)
      | cons p ps => simp
    · rw [TL.spl_miss (by simp [TL.pre, h])]
      rw [parts_spl c xs (acc ++ [x])]
      simp only [parts, if_neg h]
      cases e : parts c xs with
      | nil => exact absurd e (parts_ne c xs)
      | cons p ps => simp
theorem split_parts {c : Nat} (hc : c < 256) (s : List Nat) : Txt.split (SX.S s) (SX.S [c]) = (parts c s).map SX.S := by
  rw [SX.split_S (by simp) (by simp [hc]), parts_spl c s []]
  cases e : parts c s with
  | nil => exact absurd e (parts_ne c s)
  | cons p ps => simp
theorem parts_mem (c : Nat) : ∀ {s p : List Nat} {x : Nat}, p ∈ parts c s → x ∈ p → x ∈ s
  | [], p, x, h, hx => by simp [parts] at h; subst h; cases hx
  | y :: ys, p, x, h, hx => by
    unfold parts at h
    split at h
    · rcases List.mem_cons.mp h with h | h
      · subst h; cases hx
      · exact List.mem_cons_of_mem _ (parts_mem c h hx)
    · split at h
      · rename_i e
        exact absurd e (parts_ne c ys)
      · rename_i q qs e
        rcases List.mem_cons.mp h with h | h
        · subst h
          rcases List.mem_cons.mp hx with hx | hx
          · rw [hx]; exact List.mem_cons_self
          · exact List.mem_cons_of_mem _ (parts_mem c (by rw [e]; exact List.mem_cons_self) hx)
        · exact List.mem_cons_of_mem _ (parts_mem c (by rw [e]; exact List.mem_cons_of_mem _ h) hx)
theorem parts_len (c : Nat) : ∀ s : List Nat, (parts c s).length ≤ s.length + 1
  | [] => by simp [parts]
  | x :: xs => by
    have ih := parts_len c xs
    unfold parts
    split
    · simp only [List.length_cons]; omega
    · split
      · simp
      · rename_i e
        rw [e] at ih
        simp only [List.length_cons] at ih ⊢
        omega
theorem mu_split : MtR X "str.split" (m1 (rO X.kw (op2 .split) false)) := by
  intro pins s σ H x xs v us Q I rx rs h
  obtain ⟨y, rfl, F, d1, fp1, d2, fp2, d, m, r1, r2, e, q⟩ := h
  cases d1 <;> cases d2 <;> (try (simp only [op2, reduceCtorEq] at e; done))
  rename_i z w
  rcases w with _ | ⟨c, _ | ⟨c2, w⟩⟩ <;> simp only [op2, reduceCtorEq] at e
  obtain ⟨rfl, _, a1⟩ := rep_str r1
  obtain ⟨rfl, _, a2⟩ := rep_str r2
  by_cases hl : z.length + 2 ≤ SL
  · rw [if_pos hl] at e
    cases e
    refine mt_split pins s σ H _ _ v us Q I rx rs ⟨_, _, rfl, rfl, rfl, by rw [SX.S_len, sl_eq]; exact hl, ?_⟩
    have hc : c < 128 := asc_mem.mp a2 c List.mem_cons_self
    rw [split_parts (by omega)]
    exact fun p hp => give_lst m hp (strs_reps (parts c z) fun t ht => asc_mem.mpr fun k hk => asc_mem.mp a1 k (parts_mem c ht hk)) q
  · rw [if_neg hl] at e; cases e
theorem joined_eq (sep : List Nat) : ∀ ys : List (List Nat), joined sep ys = TL.joinL sep ys
  | [] => rfl
  | [_] => rfl
  | x :: y :: xs => by
    show x ++ (sep ++ joined sep (y :: xs)) = x ++ (sep ++ TL.joinL sep (y :: xs))
    rw [joined_eq sep (y :: xs)]
theorem joined_asc {sep : List Nat} (hs : asc sep = true) : ∀ ys : List (List Nat), (∀ y ∈ ys, asc y = true) → asc (joined sep ys) = true
  | [], _ => rfl
  | [x], h => h x List.mem_cons_self
  | x :: y :: xs, h => asc_app (h x List.mem_cons_self) (asc_app hs (joined_asc hs (y :: xs) fun z hz => h z (List.mem_cons_of_mem _ hz)))
theorem mu_join : MtR X "str.join" (m1 (rO X.kw (op2 .join) false)) := by
  intro pins s σ H x xs v us Q I rx rs h
  obtain ⟨y, rfl, F, d1, fp1, d2, fp2, d, m, r1, r2, e, q⟩ := h
  cases d1 <;> cases d2 <;> simp only [op2, reduceCtorEq, Option.bind_eq_some_iff] at e
  obtain ⟨ys, e1, e2⟩ := e
  have e3 := strsOf_eq e1
  subst e3
  obtain ⟨rfl, _, a1⟩ := rep_str r1
  obtain ⟨a, vs, f0, rfl, t1, p1, hf⟩ := rep_lst m r2
  obtain ⟨e4, e5, a2⟩ := reps_strs p1
  subst e4
  split at e2
  · rename_i hl
    cases e2
    refine mt_join pins s σ H _ _ v us Q I rx rs ⟨_, a, ys.map SX.S, rfl, rfl, .inl t1, ?_, ?_⟩
    · rw [SX.lens, List.length_map, SX.S_len]
      exact hl
    · rw [SX.join_S, ← joined_eq]
      exact give_str m (joined_asc a1 ys a2) q
  · cases e2
theorem upper_asc : ∀ s : List Nat, asc s = true → Txt.upper (SX.S s) = SX.S (s.map upc) ∧ asc (s.map upc) = true := by
  have key : ∀ c, c < 128 → Unicode.upperOf c = [upc c] ∧ upc c < 128 := by decide +kernel
  intro s h
  constructor
  · unfold Txt.upper
    have e : PySem.placed (SX.S s) (fun _ c => Unicode.upperOf c) = (s.map upc).toArray := by
      unfold PySem.placed
      apply Array.ext'
      simp only [Array.toList_flatten, Array.toList_mapIdx, List.map_toArray]
      have gen : ∀ (l : List Nat) (k : Nat), asc l = true → ((l.mapIdx fun i c => (Unicode.upperOf c).toArray).map Array.toList).flatten = l.map upc := by
        intro l
        induction l with
        | nil => intro _ _; rfl
        | cons c l ih =>
          intro k hl
          have hc := (key c (asc_mem.mp hl c List.mem_cons_self)).1
          have hl' : asc l = true := asc_mem.mpr fun x hx => asc_mem.mp hl x (List.mem_cons_of_mem _ hx)
          rw [List.mapIdx_cons]
          simp only [List.map_cons, List.flatten_cons, hc]
          rw [ih k hl']
          rfl
      exact gen s 0 h
    rw [e]
  · refine asc_mem.mpr fun c hc => ?_
    obtain ⟨x, hx, rfl⟩ := List.mem_map.mp hc
    exact (key x (asc_mem.mp h x hx)).2
theorem mu_upper : MtR X "str.upper" (m0 (rU X.kw (un1 .upper) false)) := by
  intro pins s σ H x xs v us Q I rx rs h
  obtain ⟨rfl, F, d1, fp1, d, m, r1, e, q⟩ := h
  cases d1 <;> simp only [un1, reduceCtorEq] at e
  rename_i z
  obtain ⟨rfl, _, a1⟩ := rep_str r1
  by_cases hl : z.length ≤ 5592405
  · rw [if_pos hl] at e
    cases e
    obtain ⟨u1, u2⟩ := upper_asc z a1
    refine mt_upper pins s σ H _ _ v us Q I rx rs ⟨_, rfl, rfl, by rw [SX.S_len]; exact hl, ?_⟩
    rw [u1]
    exact give_str m u2 q
  · rw [if_neg hl] at e; cases e
end
end Z

set_option Elab.async false
set_option linter.all false
set_option maxRecDepth 100000
/-! dict(a list or a tuple of pairs). -/
namespace Z
open PySem PySem.Spec PyProof.Rows L2
section
variable {K : Kw} {F H : Hp}
theorem preps_inv {z : V × V} {zp : List (V × V)} {p : D × D} {ps : List (D × D)} (h : PReps K F H (z :: zp) (p :: ps) []) : Rep K F H z.1 p.1 [] ∧ Rep K F H z.2 p.2 [] ∧ PReps K F H zp ps [] := by
  have key : ∀ fp, PReps K F H (z :: zp) (p :: ps) fp → ∃ f1 f2, fp = f1 ++ f2 ∧ Rep K F H z.1 p.1 [] ∧ Rep K F H z.2 p.2 f1 ∧ PReps K F H zp ps f2 := fun fp h => by
    cases h with
    | cons p0 p1 p2 hd => exact ⟨_, _, rfl, p0, p1, p2⟩
  obtain ⟨f1, f2, e, p0, p1, p2⟩ := key _ h
  obtain ⟨rfl, rfl⟩ := List.append_eq_nil_iff.mp e.symm
  exact ⟨p0, p1, p2⟩
theorem reps_inv {vs : List V} {d : D} {ds : List D} (h : Reps K F H vs (d :: ds) []) : ∃ x vs', vs = x :: vs' ∧ Rep K F H x d [] ∧ Reps K F H vs' ds [] := by
  have key : ∀ fp, Reps K F H vs (d :: ds) fp → ∃ x vs' f1 f2, vs = x :: vs' ∧ fp = f1 ++ f2 ∧ Rep K F H x d f1 ∧ Reps K F H vs' ds f2 := fun fp h => by
    cases h with
    | cons p0 p1 hd => exact ⟨_, _, _, _, rfl, rfl, p0, p1⟩
  obtain ⟨x, vs', f1, f2, rfl, e, p0, p1⟩ := key _ h
  obtain ⟨rfl, rfl⟩ := List.append_eq_nil_iff.mp e.symm
  exact ⟨x, vs', rfl, p0, p1⟩
/-- a dict under way -/
structure Mid (K : Kw) (F H : Hp) (n : Nat) (zs : List Z3) (ds : List (D × D)) : Prop where
  p : PReps K F H (zs.map (·.2)) ds []
  k : zs.map (·.1) = ds.map (·.1.nk)
  q : kOk n ds = true
  nd : (zs.map (·.1)).Nodup
theorem mid_put {n : Nat} {zs : List Z3} {ds : List (D × D)} {x y : D} {kv yv : V} (hn : n ≠ 0) (M : Mid K F H n zs ds) (hx : x.kd = n) (rk : Rep K F H kv x []) (ry : Rep K F H yv y []) :
    Mid K F H n (zput zs x.nk kv yv) (dput ds x y) ∧ (zput zs x.nk kv yv).length ≤ zs.length + 1 := by
  obtain ⟨fp', q1, q2, q3, q4, q5, q6⟩ := preps_put hn M.p M.k M.q hx M.nd rk ry (fun _ z => nomatch z)
  have e : fp' = [] := List.eq_nil_iff_forall_not_mem.mpr fun a ha => by
    rcases q6 a ha with z | z <;> cases z
  subst e
  exact ⟨⟨q1, q2, q3, q4⟩, q5⟩
def P1 : List (V × V) → List (Str × Value) → Prop := Paired fun z q => z.1 = .str q.1 ∧ RelV z.2 q.2
theorem fold1 : ∀ {zp : List (V × V)} {ps : List (D × D)} {kvs : List (Str × Value)}, PReps K F H zp ps [] → kOk 1 ps = true → P1 zp kvs → ∀ (zs : List Z3) (ds : List (D × D)) (acc : List (Str × Value)), Mid K F H 1 zs ds → KZ zs acc →
    ∃ zs', Mid K F H 1 zs' (ps.foldl (fun a p => dput a p.1 p.2) ds) ∧ KZ zs' (merged acc kvs) ∧ zs'.length ≤ zs.length + ps.length
  | [], [], kvs, _, _, h, zs, ds, acc, M, kz => by
    cases h
    exact ⟨zs, M, kz, Nat.le_refl _⟩
  | [], _ :: _, _, h, _, _, _, _, _, _, _ => by cases h
  | _ :: _, [], _, h, _, _, _, _, _, _, _ => by cases h
  | z :: zp, (kd, dd) :: ps, kvs, h, hq, hp, zs, ds, acc, M, kz => by
    simp only [kOk, List.all_cons, Bool.and_eq_true, beq_iff_eq] at hq
    obtain ⟨x, rfl⟩ := kd_1 hq.1
    cases hp with
    | @cons _ q _ kvs h1 h2 =>
      obtain ⟨p0, p1, p2⟩ := preps_inv h
      obtain ⟨M2, l2⟩ := mid_put (by decide) M (x := .str x) rfl p0 p1
      have ek : q.1 = SX.S x := by
        obtain ⟨q1, _, _⟩ := rep_str p0
        rw [h1.1] at q1
        injection q1
      have kz2 : KZ (zput zs (D.str x).nk z.1 z.2) (stored acc q.1 q.2) := by
        have := kz.put q.1 h1.2
        rw [h1.1]
        have e2 : (D.str x).nk = .text q.1 := by rw [ek]; rfl
        rw [e2]
        exact this
      obtain ⟨zs', a, b, c⟩ := fold1 p2 (by unfold kOk; exact hq.2) h2 _ _ _ M2 kz2
      exact ⟨zs', a, b, by rw [List.length_cons]; omega⟩
def P2 : List (V × V) → List (D × D) → List (NestedKey × Addr × Value) → Prop
  | [], [], [] => True
  | z :: zp, p :: ps, q :: qs => q.1 = p.1.nk ∧ z.1 = .ref q.2.1 ∧ RelV z.2 q.2.2 ∧ P2 zp ps qs
  | _, _, _ => False
theorem fold2 : ∀ {zp : List (V × V)} {ps : List (D × D)} {kvs : List (NestedKey × Addr × Value)}, PReps K F H zp ps [] → kOk 2 ps = true → P2 zp ps kvs → ∀ (zs : List Z3) (ds : List (D × D)) (acc : List (NestedKey × Addr × Value)), Mid K F H 2 zs ds → XZ zs acc →
    ∃ zs', Mid K F H 2 zs' (ps.foldl (fun a p => dput a p.1 p.2) ds) ∧ XZ zs' (storedAllH acc kvs) ∧ zs'.length ≤ zs.length + ps.length
  | [], [], [], _, _, _, zs, ds, acc, M, kz => ⟨zs, M, kz, Nat.le_refl _⟩
  | [], [], _ :: _, _, _, h, _, _, _, _, _ => h.elim
  | [], _ :: _, _, h, _, _, _, _, _, _, _ => by cases h
  | _ :: _, [], _, h, _, _, _, _, _, _, _ => by cases h
  | _ :: _, _ :: _, [], _, _, h, _, _, _, _, _ => h.elim
  | z :: zp, (kd, dd) :: ps, q :: kvs, h, hq, hp, zs, ds, acc, M, kz => by
    simp only [kOk, List.all_cons, Bool.and_eq_true, beq_iff_eq] at hq
    obtain ⟨h1, h2, h3, h4⟩ := hp
    obtain ⟨p0, p1, p2⟩ := preps_inv h
    obtain ⟨M2, l2⟩ := mid_put (by decide) M (x := kd) hq.1 p0 p1
    have kz2 : XZ (zput zs kd.nk z.1 z.2) (storedH acc q.1 q.2.1 q.2.2) := by
      have h1 : q.1 = kd.nk := h1
      rw [← h1, h2]
      exact kz.put q.1 h3
    obtain ⟨zs', a, b, c⟩ := fold2 p2 (by unfold kOk; exact hq.2) h4 _ _ _ M2 kz2
    exact ⟨zs', a, b, by rw [List.length_cons]; omega⟩
end
section
variable {X : Cx} {pins : List (Addr × Obj)} {σ : L2.St} {F H : Hp} {s : Shared}
/-- pairs that lie in tuples -/
def PZ (h : Heap) : List Addr → List (V × V) → List (Value × Value) → Prop
  | [], [], [] => True
  | a :: as, z :: zs, q :: qs => IsTup h a #[q.1, q.2] ∧ RelV z.1 q.1 ∧ RelV z.2 q.2 ∧ PZ h as zs qs
  | _, _, _ => False
theorem pairs_in (I : Inv X pins σ H s) (m : ∀ a o, F a = some o → H a = some o) : ∀ {vs : List V} {ds : List D} {ps : List (D × D)}, Reps X.kw F H vs ds [] → pairsOf ds = some ps →
    ∃ as zs qs, vs = as.map V.ref ∧ PZ s.heap as zs qs ∧ PReps X.kw F H zs ps []
  | _, [], ps, r, e => by
    cases r
    simp only [pairsOf, Option.some.injEq] at e
    subst e
    exact ⟨[], [], [], rfl, trivial, .nil⟩
  | vs, d :: ds, ps, r, e => by
    have key : ∃ k v, d = .tup [k, v] ∧ ∃ r, pairsOf ds = some r ∧ ps = (k, v) :: r := by
      unfold pairsOf at e
      split at e
      · rename_i h; cases h
      · rename_i k v r h
        cases h
        rw [Option.map_eq_some_iff] at e
        obtain ⟨r, e1, rfl⟩ := e
        exact ⟨k, v, rfl, r, e1, rfl⟩
      · cases e
    obtain ⟨k, v, rfl, ps, e2, rfl⟩ := key
    obtain ⟨x, vs', rfl, r0, r1⟩ := reps_inv r
    obtain ⟨as, zs, qs, rfl, h1, h2⟩ := pairs_in I m r1 e2
    obtain ⟨a, ws, rfl, t0, t1, p1⟩ := rep_tup m r0
    obtain ⟨its, rv, ht, _⟩ := I.tuple t1
    obtain ⟨kv, ws, rfl, rk, p2⟩ := reps_inv p1
    obtain ⟨vv, ws, rfl, rw_, p3⟩ := reps_inv p2
    cases p3
    obtain ⟨u, y, rfl, ru, ry⟩ := vals2 rv
    exact ⟨a :: as, (kv, vv) :: zs, (u, y) :: qs, rfl, ⟨ht, ru, ry, h1⟩, .cons rk rw_ h2 fun _ z => nomatch z⟩
theorem PZ.len {h : Heap} : ∀ {as : List Addr} {zs : List (V × V)} {qs : List (Value × Value)}, PZ h as zs qs → as.length = qs.length ∧ zs.length = qs.length
  | [], [], [], _ => ⟨rfl, rfl⟩
  | _ :: _, _ :: _, _ :: _, x => by obtain ⟨_, _, _, r⟩ := x; obtain ⟨a, b⟩ := r.len; exact ⟨by simp [a], by simp [b]⟩
  | [], [], _ :: _, x => x.elim
  | [], _ :: _, _, x => x.elim
  | _ :: _, [], _, x => x.elim
  | _ :: _, _ :: _, [], x => x.elim
theorem PZ.at {h : Heap} : ∀ {as : List Addr} {zs : List (V × V)} {qs : List (Value × Value)}, PZ h as zs qs → ∀ (j : Nat) (k v : Value), qs[j]? = some (k, v) → ∃ a z, as[j]? = some a ∧ zs[j]? = some z ∧ IsTup h a #[k, v] ∧ RelV z.1 k ∧ RelV z.2 v
  | [], [], [], _, j, k, v, e => by simp at e
  | a :: _, z :: _, q :: _, x, 0, k, v, e => by
    simp only [List.getElem?_cons_zero, Option.some.injEq] at e
    subst e
    exact ⟨a, z, rfl, rfl, x.1, x.2.1, x.2.2.1⟩
  | a :: _, z :: _, q :: _, x, j + 1, k, v, e => by
    obtain ⟨a', z', h1, h2, h3⟩ := x.2.2.2.at j k v (by simpa using e)
    exact ⟨a', z', by simpa using h1, by simpa using h2, h3⟩
  | [], [], _ :: _, x, _, _, _, _ => x.elim
  | [], _ :: _, _, x, _, _, _, _ => x.elim
  | _ :: _, [], _, x, _, _, _, _ => x.elim
  | _ :: _, _ :: _, [], x, _, _, _, _ => x.elim
theorem preps_keys : ∀ {zs : List (V × V)} {ps : List (D × D)}, PReps X.kw F H zs ps [] → ∀ (j : Nat) (z : V × V), zs[j]? = some z → ∃ p, ps[j]? = some p ∧ Rep X.kw F H z.1 p.1 []
  | [], _, _, j, z, e => by simp at e
  | z :: zs, [], h, _, _, _ => by cases h
  | z :: zs, p :: ps, h, j, w, e => by
    obtain ⟨p0, p1, p2⟩ := preps_inv h
    cases j with
    | zero =>
      simp only [List.getElem?_cons_zero, Option.some.injEq] at e
      subst e
      exact ⟨p, rfl, p0⟩
    | succ j => exact preps_keys p2 j w (by simpa using e)
theorem kOk_at {n : Nat} {ps : List (D × D)} (h : kOk n ps = true) {j : Nat} {p : D × D} (e : ps[j]? = some p) : p.1.kd = n := by
  have := List.all_eq_true.mp h p (List.mem_of_getElem? e)
  simpa using this
/-- the keys' texts -/
def mk1 (ps : List (D × D)) (qs : List (Value × Value)) : List (Str × Value) := (ps.zip qs).map fun x => (match x.1.1 with | .str l => SX.S l | _ => Str.empty, x.2.2)
theorem mk1_p : ∀ {as : List Addr} {zs : List (V × V)} {ps : List (D × D)} {qs : List (Value × Value)} {h : Heap}, PReps X.kw F H zs ps [] → kOk 1 ps = true → PZ h as zs qs → P1 zs (mk1 ps qs) ∧ (mk1 ps qs).length = qs.length ∧
    ∀ (i : Nat) (key v : Value), qs[i]? = some (key, v) → ∃ k, (mk1 ps qs)[i]? = some (k, v) ∧ (strKind X.prog X.w).is k key = true
  | as, [], ps, qs, h, r, hq, pz => by
    cases r
    cases as with
    | cons _ _ => exact pz.elim
    | nil => cases qs with
      | cons _ _ => exact pz.elim
      | nil => exact ⟨.nil, rfl, fun i k v e => by simp at e⟩
  | as, z :: zs, [], qs, h, r, hq, pz => by cases r
  | as, z :: zs, (kd, dd) :: ps, qs, h, r, hq, pz => by
    cases as with
    | nil => exact pz.elim
    | cons a as => cases qs with
      | nil => exact pz.elim
      | cons q qs =>
        obtain ⟨h1, h2, h3, h4⟩ := pz
        have hq0 := hq
        simp only [kOk, List.all_cons, Bool.and_eq_true, beq_iff_eq] at hq
        obtain ⟨x, rfl⟩ := kd_1 hq.1
        obtain ⟨p0, _, p2⟩ := preps_inv r
        obtain ⟨ih1, ih2, ih3⟩ := mk1_p p2 (by unfold kOk; exact hq.2) h4
        obtain ⟨q1, _, _⟩ := rep_str p0
        have q1 : z.1 = .str (SX.S x) := q1
        refine ⟨.cons ⟨q1, h3⟩ ih1, by show _ + 1 = _ + 1; rw [← ih2]; rfl, fun i k v e => ?_⟩
        cases i with
        | zero =>
          simp only [List.getElem?_cons_zero, Option.some.injEq] at e
          subst e
          rw [q1] at h2
          exact ⟨SX.S x, rfl, str_is h2⟩
        | succ i =>
          obtain ⟨k', e1, e2⟩ := ih3 i k v (by simpa using e)
          exact ⟨k', by show (mk1 ps qs)[i]? = _; exact e1, e2⟩
def mk2 (ps : List (D × D)) (qs : List (Value × Value)) : List (NestedKey × Addr × Value) := (ps.zip qs).map fun x => (x.1.1.nk, (match x.2.1 with | .ref b => b | _ => 0), x.2.2)
theorem mk2_p (I : Inv X pins σ H s) (m : ∀ a o, F a = some o → H a = some o) : ∀ {as : List Addr} {zs : List (V × V)} {ps : List (D × D)} {qs : List (Value × Value)} {h : Heap}, PReps X.kw F H zs ps [] → kOk 2 ps = true → PZ h as zs qs → P2 zs ps (mk2 ps qs) ∧ (mk2 ps qs).length = qs.length ∧
    (∀ (i : Nat) (key v : Value), qs[i]? = some (key, v) → ∃ k b, (mk2 ps qs)[i]? = some (k, b, v) ∧ key = .ref b) ∧ ∀ x ∈ mk2 ps qs, (nestedKind X.prog X.w).is s.heap x.1 x.2.1
  | as, [], ps, qs, h, r, hq, pz => by
    cases r
    cases as with
    | cons _ _ => exact pz.elim
    | nil => cases qs with
      | cons _ _ => exact pz.elim
      | nil => exact ⟨trivial, rfl, fun i k v e => by simp at e, fun _ z => nomatch z⟩
  | as, z :: zs, [], qs, h, r, hq, pz => by cases r
  | as, z :: zs, (kd, dd) :: ps, qs, h, r, hq, pz => by
    cases as with
    | nil => exact pz.elim
    | cons a as => cases qs with
      | nil => exact pz.elim
      | cons q qs =>
        obtain ⟨h1, h2, h3, h4⟩ := pz
        simp only [kOk, List.all_cons, Bool.and_eq_true, beq_iff_eq] at hq
        obtain ⟨ys, rfl, y1, y2⟩ := kd_2 hq.1
        obtain ⟨p0, _, p2⟩ := preps_inv r
        obtain ⟨ih1, ih2, ih3, ih4⟩ := mk2_p I m p2 (by unfold kOk; exact hq.2) h4
        obtain ⟨b, _, q1, _⟩ := rep_tup m p0
        have q1 : z.1 = .ref b := q1
        obtain ⟨q, qv⟩ := q
        have h2 : RelV z.1 q := h2
        rw [q1] at h2
        obtain rfl : q = Value.ref b := h2
        refine ⟨⟨rfl, q1, h3, ih1⟩, by show _ + 1 = _ + 1; rw [← ih2]; rfl, fun i k v e => ?_, fun x hx => ?_⟩
        · cases i with
          | zero =>
            simp only [List.getElem?_cons_zero, Option.some.injEq, Prod.mk.injEq] at e
            obtain ⟨rfl, rfl⟩ := e
            exact ⟨_, b, rfl, rfl⟩
          | succ i =>
            obtain ⟨k', b', e1, e2⟩ := ih3 i k v (by simpa using e)
            exact ⟨k', b', by show (mk2 ps qs)[i]? = _; exact e1, e2⟩
        · have hx : x = ((D.tup ys).nk, b, qv) ∨ x ∈ mk2 ps qs := by simpa [mk2] using hx
          rcases hx with rfl | hx
          · refine ⟨nis I m p0 (by simpa [D.hs] using y1) (.ref b) (by rw [q1]; rfl), ?_⟩
            show (D.tup ys).nk.depth ≤ 8
            rw [nk_dep _ (by simpa [D.hs] using y1)]
            simp only [D.dep]
            omega
          · exact ih4 x hx
/-- the new dict -/
theorem dict_made {vf : Bool} {fp1 : List Addr} {h' : Heap} {tk n : Nat} {zs : List Z3} {ds : List (D × D)} {o : Obj} {Q : VK} (I : Inv X pins σ H s) (m : ∀ a o, F a = some o → H a = some o) (hn : n ≠ 0) (M : Mid X.kw F H n zs ds) (kp : ∀ b u, s.heap.get? b = some u → h'.get? b = some u) (e : h'.get? s.heap.objs.size = some o) (ok : DOk X.w o s.heap.objs.size zs)
    (q : Give X.kw vf fp1 F H (.dct true ds) Q) : EP X pins σ Q (.ref s.heap.objs.size) { s with heap := h', toks := tk } := by
  have hp : H s.heap.objs.size = none := I.hok.fresh (Nat.le_refl _)
  have hf : F s.heap.objs.size = none := by
    cases e : F s.heap.objs.size with
    | none => rfl
    | some o => rw [m _ _ e] at hp; cases hp
  refine ⟨.ref s.heap.objs.size, _, I.laid (t' := tk) kp (Nat.le_refl _) (do_new e), rfl, ?_⟩
  have x := Ext.own (o := DO s.heap.objs.size o) m hp
  refine q _ _ _ _ x (.dctO (fp := []) upd_same hf ok (PReps.mono x.f M.p fun _ z => nomatch z) M.k ⟨n, hn, M.q⟩ (fun z => nomatch z)) fun a z => ?_
  rcases List.mem_cons.mp z with z | z
  · subst z; exact .inl hp
  · cases z
theorem ksm (I : Inv X pins σ H s) : (s.heap.objs.size == sysModules) = false := beq_eq_false_iff_ne.mpr (Nat.ne_of_gt I.big)
/-- of pairs told by PairArg -/
theorem dict_of {vf : Bool} {fp1 : List Addr} {T : String} {a : Addr} {fq : List Addr} {as : List Addr} {zs : List (V × V)} {ps : List (D × D)} {qs : List (Value × Value)} {OK : Heap → Prop} {Q : VK} (hc : X.calm = true) (hu : X.A.units + 65 < cLine) (I : Inv X pins σ H s) (m : ∀ a o, F a = some o → H a = some o)
    (P : PairArg X.prog X.w T a fq [] qs.length (PairRel qs) OK) (ok : OK s.heap) (pz : PZ s.heap as zs qs) (r : PReps X.kw F H zs ps []) (hl : qs.length ≤ SL) (hk : kAll ps = true) (q : Give X.kw vf fp1 F H (.dct true (dfold ps)) Q) :
    wpAny (model X.prog X.w) X.A (call (.type "dict") [.ref a]) (EP X pins σ Q) X.xe s := by
  have hsl := sl_eq
  have lps : ps.length = qs.length := by
    have := pz.len.2
    rw [← this]
    have key : ∀ {zs : List (V × V)} {ps : List (D × D)} {fp : List Addr}, PReps X.kw F H zs ps fp → ps.length = zs.length := by
      intro zs
      induction zs with
      | nil => intro ps fp h; cases h; rfl
      | cons z zs ih => intro ps fp h; cases h with | cons p0 p1 p2 hd => simp [ih p2]
    exact key r
  have c12 : kOk 1 ps = true ∨ kOk 2 ps = true := by
    cases ps with
    | nil => exact .inl rfl
    | cons p ps =>
      obtain ⟨k, v⟩ := p
      unfold kAll at hk
      rw [Bool.and_eq_true] at hk
      rcases kd_12 k with e | e | e
      · rw [e] at hk; simp at hk
      · rw [e] at hk; exact .inl hk.2
      · rw [e] at hk; exact .inr hk.2
  rcases c12 with c | c
  · obtain ⟨m1, m2, m3⟩ := mk1_p r c pz
    refine call_dict_pairs (knd := strKind X.prog X.w) (kvs := mk1 ps qs) P (I.ok.hd hc) ok ⟨m2, m3⟩ (by omega) fun h' tk d kp => ?_
    obtain ⟨zs', M, kz, l⟩ := fold1 r c m1 [] [] [] ⟨.nil, rfl, rfl, List.nodup_nil⟩ .nil
    obtain ⟨o', e1, e2⟩ := dok1 (X := X) kz d M.nd (ksm I) (by rw [List.length_nil] at l; omega)
    exact dict_made I m (by decide) M (fun b u e => kp b u (fun z => nomatch z) e) e1 e2 q
  · obtain ⟨m1, m2, m3, m4⟩ := mk2_p I m r c pz
    have hu2 : (nestedKind X.prog X.w).room X.A.in1.in1 := by
      show X.A.units + 1 + 1 + 8 < cLine
      omega
    refine call_dict_pairsH (knd := nestedKind X.prog X.w) (ps := mk2 ps qs) P (I.ok.hd hc) hu2 ok ⟨m2, m3⟩ (fun h' hk x hx => ?_) (by omega) fun h' tk d kp => ?_
    · exact nestedKind_stays.stays (fun b o vs n e _ => hk b o (Nat.ne_of_lt (Heap.lt_size e)) (fun z => nomatch z) e) (m4 x hx)
    obtain ⟨zs', M, kz, l⟩ := fold2 r c m1 [] [] [] ⟨.nil, rfl, rfl, List.nodup_nil⟩ .nil
    obtain ⟨o', e1, e2⟩ := dok2 (X := X) kz d M.nd (ksm I) (by rw [List.length_nil] at l; omega)
    exact dict_made I m (by decide) M (fun b u e => kp b u (fun z => nomatch z) e) e1 e2 q
theorem refs_out : ∀ {as : List Addr} {us : List Value}, Vals (as.map V.ref) us → us = as.map Value.ref
  | [], _, .nil => rfl
  | a :: as, _, .cons r rs => by
    cases r
    rw [refs_out rs]; rfl
theorem pz_items {as : List Addr} {zs : List (V × V)} {qs : List (Value × Value)} (pz : PZ s.heap as zs qs) : PairItems s.heap (as.map Value.ref).toArray (fun j => as.getD j 0) qs := by
  refine ⟨by simp [pz.len.1], fun j k v e => ?_⟩
  obtain ⟨a, z, h1, h2, h3, _⟩ := pz.at j k v e
  have e1 : (fun j => as.getD j 0) j = a := by show as.getD j 0 = a; rw [List.getD_eq_getElem?_getD, h1]; rfl
  exact ⟨by rw [e1]; simp [h1], by rw [e1]; exact .inl h3⟩
theorem dctOf_in {xs : List D} {d : D} (h : dctOf xs = some d) : ∃ ps, pairsOf xs = some ps ∧ ownL xs = false ∧ kAll ps = true ∧ xs.length ≤ SL ∧ d = .dct true (dfold ps) := by
  unfold dctOf at h
  rw [Option.bind_eq_some_iff] at h
  obtain ⟨ps, e, h⟩ := h
  split at h
  · rename_i q
    rw [Bool.and_eq_true, Bool.and_eq_true, Bool.not_eq_true', decide_eq_true_eq] at q
    cases h
    exact ⟨ps, e, q.1, q.2.1, q.2.2, rfl⟩
  · cases h
theorem cu_dict (hc : X.calm = true) (hu : X.A.units + 65 < cLine) : CallR X (.type "dict") (r1 (rU X.kw (un1 .dict) false)) := by
  intro pp s1 τ G xs us Q I rs h
  obtain ⟨x, rfl, F, d1, fp1, d, m, r, e, q⟩ := h
  obtain ⟨u, rfl, ru⟩ := vals1 rs
  cases d1 <;> simp only [un1, reduceCtorEq] at e
  · rename_i ys
    obtain ⟨ps, e1, e2, e3, e4, rfl⟩ := dctOf_in e
    obtain ⟨a, vs, rfl, t0, t1, p1⟩ := rep_tup m r
    have p1 := fps_nil p1 e2
    obtain rfl : u = Value.ref a := ru
    obtain ⟨o, n, its, o1, o2, o3, o4, rv, hz⟩ := t0.obj I m
    obtain ⟨as, zs, qs, rfl, pz, pr⟩ := pairs_in I m p1 e1
    obtain rfl := refs_out rv
    have l1 := p1.len
    have l2 := pz.len.1
    rw [List.length_map] at l1
    exact dict_of hc hu I m (PairArg.tuple a _ (fun j => as.getD j 0) qs) ⟨⟨o, n, o1, o2, o3, o4⟩, pz_items pz⟩ pz pr (by omega) e3 q
  · rename_i o ys
    obtain ⟨ps, e1, e2, e3, e4, rfl⟩ := dctOf_in e
    obtain ⟨a, vs, f0, rfl, t1, p1, hf⟩ := rep_lst m r
    have p1 := fps_nil p1 e2
    obtain rfl : u = Value.ref a := ru
    obtain ⟨its, rv, pl, hz⟩ := I.list t1
    obtain ⟨o, n, o1, o2, o3, o4⟩ := pl
    obtain ⟨as, zs, qs, rfl, pz, pr⟩ := pairs_in I m p1 e1
    obtain rfl := refs_out rv
    have l1 := p1.len
    have l2 := pz.len.1
    rw [List.length_map] at l1
    exact dict_of hc hu I m (PairArg.list a _ (fun j => as.getD j 0) qs) ⟨⟨o, n, o1, o2, o3, o4⟩, pz_items pz⟩ pz pr (by omega) e3 q
end
end Z

set_option Elab.async false
set_option linter.all false
set_option maxRecDepth 100000
/-! sorted, of data that are alike. -/
namespace Z
open PySem PySem.Spec PyProof.Rows L2
mutual
theorem alk_py : ∀ x y : D, x.alk y = true → PySem.W.alike x.py y.py = true
  | .non, y, h => by cases y <;> first | rfl | (simp [D.alk] at h; done)
  | .bl b, y, h => by cases y <;> first | rfl | (simp [D.alk] at h; done)
  | .int i, y, h => by cases y <;> first | rfl | (simp [D.alk] at h; done)
  | .str s, y, h => by cases y <;> first | rfl | (simp [D.alk] at h; done)
  | .tup xs, y, h => by
    cases y <;> (try (simp [D.alk] at h; done))
    simp only [D.py, PySem.W.alike]
    exact alk_pyL _ _ (by simpa [D.alk] using h)
  | .lst _ xs, y, h => by
    cases y <;> (try (simp [D.alk] at h; done))
    simp only [D.py, PySem.W.alike]
    exact alk_pyL _ _ (by simpa [D.alk] using h)
  | .dct _ _, y, h => by cases y <;> simp [D.alk] at h
  | .set _ _, y, h => by cases y <;> simp [D.alk] at h
  | .ins _ _ _, y, h => by cases y <;> simp [D.alk] at h
theorem alk_pyL : ∀ xs ys : List D, alkL xs ys = true → PySem.W.alikeAll (pyL xs) (pyL ys) = true
  | [], ys, _ => by simp [pyL, PySem.W.alikeAll]
  | x :: xs, [], _ => by simp [pyL, PySem.W.alikeAll]
  | x :: xs, y :: ys, h => by
    simp only [alkL, Bool.and_eq_true] at h
    simp only [pyL, PySem.W.alikeAll, alk_py x y h.1, alk_pyL xs ys h.2, Bool.and_self]
end
mutual
theorem lt_py : ∀ x y : D, x.alk y = true → x.dep ≤ 900 → y.dep ≤ 900 → PySem.W.dataLt x.py y.py = x.lt y
  | .non, y, h, _, _ => by cases y <;> first | rfl | (simp [D.alk] at h; done)
  | .bl a, y, h, h1, h2 => by
    cases y with
    | bl b =>
      simp only [D.py, D.lt, PySem.W.dataLt_bool]
      cases a <;> cases b <;> rfl
    | _ => simp [D.alk] at h
  | .int i, y, h, _, _ => by
    cases y <;> (try (simp [D.alk] at h; done))
    simp only [D.py, D.lt, PySem.W.dataLt_int]
  | .str s, y, h, _, _ => by
    cases y <;> (try (simp [D.alk] at h; done))
    simp only [D.py, D.lt, PySem.W.dataLt_str, lexb_lt]
  | .tup xs, y, h, h1, h2 => by
    cases y <;> (try (simp [D.alk] at h; done))
    simp only [D.dep] at h1 h2
    simp only [D.py, D.lt, PySem.W.dataLt_tuple]
    exact lt_pyL _ _ (by simpa [D.alk] using h) (by omega) (by omega)
  | .lst _ xs, y, h, h1, h2 => by
    cases y <;> (try (simp [D.alk] at h; done))
    simp only [D.dep] at h1 h2
    simp only [D.py, D.lt, PySem.W.dataLt_list]
    exact lt_pyL _ _ (by simpa [D.alk] using h) (by omega) (by omega)
  | .dct _ _, y, h, _, _ => by cases y <;> simp [D.alk] at h
  | .set _ _, y, h, _, _ => by cases y <;> simp [D.alk] at h
  | .ins _ _ _, y, h, _, _ => by cases y <;> simp [D.alk] at h
theorem lt_pyL : ∀ xs ys : List D, alkL xs ys = true → depL xs ≤ 900 → depL ys ≤ 900 → lexLt itemOrd (PySem.W.keyToksAll (pyL xs)) (PySem.W.keyToksAll (pyL ys)) = ltL xs ys
  | [], [], _, _, _ => by
    simp only [pyL, ltL]
    exact lex_irrefl _
  | [], y :: ys, _, _, _ => by
    simp only [pyL, ltL, PySem.W.keyToksAll]
    rw [PySem.W.lex_atom (by simp)]
    rfl
  | x :: xs, [], _, _, _ => by
    simp only [pyL, ltL, PySem.W.keyToksAll]
    rw [PySem.W.lex_atom (by simp)]
    rfl
  | x :: xs, y :: ys, h, h1, h2 => by
    simp only [alkL, Bool.and_eq_true] at h
    simp only [depL] at h1 h2
    have h1a : x.dep ≤ 900 := by omega
    have h2a : y.dep ≤ 900 := by omega
    simp only [pyL, ltL]
    rw [PySem.W.dataLt_cons (alk_py x y h.1), py_eqv x y h1a h2a, lt_pyL xs ys h.2 (by omega) (by omega), lt_py x y h.1 h1a h2a]
end
theorem srt_al {ds : List D} (h : srtOk ds = true) : depL ds ≤ 64 ∧ (∀ x ∈ ds, ∀ y ∈ ds, x.alk y = true) ∧ PySem.W.Sortable (ds.map D.py) := by
  unfold srtOk at h
  rw [Bool.and_eq_true, Bool.and_eq_true, decide_eq_true_eq] at h
  obtain ⟨h0, h1, h2⟩ := h
  refine ⟨h0, fun x hx y hy => List.all_eq_true.mp (List.all_eq_true.mp h1 x hx) y hy, ?_⟩
  rw [Bool.or_eq_true] at h2
  rcases h2 with h2 | h2
  · refine .inl fun d hd => ?_
    obtain ⟨x, hx, rfl⟩ := List.mem_map.mp hd
    have q := List.all_eq_true.mp h2 x hx
    cases x <;> (try (simp at q; done))
    rename_i xs
    cases xs with
    | nil => simp at q
    | cons x xs => exact ⟨x.py, pyL xs, rfl⟩
  · refine .inr fun d hd => ?_
    obtain ⟨x, hx, rfl⟩ := List.mem_map.mp hd
    have q := List.all_eq_true.mp h2 x hx
    cases x <;> (try (simp at q; done)) <;> exact ⟨fun z => by simp [D.py] at z, fun xs z => by simp [D.py] at z⟩
theorem all_alike {ds : List D} (h : ∀ x ∈ ds, ∀ y ∈ ds, x.alk y = true) : PySem.W.AllAlike (ds.map D.py) := by
  intro d hd e he
  obtain ⟨x, hx, rfl⟩ := List.mem_map.mp hd
  obtain ⟨y, hy, rfl⟩ := List.mem_map.mp he
  exact alk_py x y (h x hx y hy)
theorem leD_py {ds : List D} (h0 : depL ds ≤ 64) (h : ∀ x ∈ ds, ∀ y ∈ ds, x.alk y = true) : ∀ x ∈ ds, ∀ y ∈ ds, (!PySem.W.dataLt y.py x.py) = leD x y := by
  intro x hx y hy
  unfold leD
  rw [lt_py y x (h y hy x hx) (Nat.le_trans (dep_le64 h0 _ hy) (by decide)) (Nat.le_trans (dep_le64 h0 _ hx) (by decide))]
section
variable {X : Cx} {pins : List (Addr × Obj)} {σ : L2.St} {F H : Hp} {s : Shared}
/-- items, pairwise -/
theorem each_zip {h : Heap} (I : Inv X pins σ H s) (m : ∀ a o, F a = some o → H a = some o) (hk : ∀ b o, s.heap.get? b = some o → h.get? b = some o) : ∀ {vs : List V} {ds : List D} {us : List Value}, Reps X.kw F H vs ds [] → Vals vs us → depL ds ≤ 64 →
    PySem.W.EachIs (fun u (b : V × D) => RelV b.1 u) us (vs.zip ds) ∧ PySem.W.EachIs (fun u (b : V × D) => ∃ as, Reads h u b.2.py as) us (vs.zip ds)
  | [], ds, us, p, r, _ => by cases r; exact ⟨.nil, .nil⟩
  | v :: vs, [], us, p, r, _ => by have := p.len; simp at this
  | v :: vs, d :: ds, us, p, r, hd => by
    simp only [depL] at hd
    obtain ⟨p1, p2⟩ := p.inv0
    cases r with
    | cons r rs =>
      obtain ⟨e1, e2⟩ := each_zip I m hk p2 rs (by omega)
      obtain ⟨as, ra⟩ := Dp.reads I _ v _ (p1.dp m (by omega)) r
      exact ⟨.cons r e1, .cons ⟨as, Reads.keeps hk ra⟩ e2⟩
theorem vals_each : ∀ {us : List Value} {bs : List (V × D)}, PySem.W.EachIs (fun u (b : V × D) => RelV b.1 u) us bs → Vals (bs.map (·.1)) us
  | _, _, .nil => .nil
  | _, _, .cons h t => .cons h (vals_each t)
theorem reps_zip {K : Kw} {F H : Hp} : ∀ {bs : List (V × D)}, (∀ b ∈ bs, Rep K F H b.1 b.2 []) → Reps K F H (bs.map (·.1)) (bs.map (·.2)) []
  | [], _ => .nil
  | b :: bs, h => Reps.cons0 (h b List.mem_cons_self) (reps_zip fun c hc => h c (List.mem_cons_of_mem _ hc))
theorem zip_rep {K : Kw} {F H : Hp} : ∀ {vs : List V} {ds : List D}, Reps K F H vs ds [] → ∀ b ∈ vs.zip ds, Rep K F H b.1 b.2 []
  | [], _, _, b, h => by simp at h
  | v :: vs, [], p, b, h => by simp at h
  | v :: vs, d :: ds, p, b, h => by
    obtain ⟨p1, p2⟩ := p.inv0
    rcases List.mem_cons.mp (by simpa using h) with q | q
    · subst q; exact p1
    · exact zip_rep p2 b q
theorem zip_snd : ∀ {vs : List V} {ds : List D}, vs.length = ds.length → (vs.zip ds).map (·.2) = ds
  | [], [], _ => rfl
  | [], _ :: _, h => by simp at h
  | _ :: _, [], h => by simp at h
  | v :: vs, d :: ds, h => by
    simp only [List.zip_cons_cons, List.map_cons]
    rw [zip_snd (by simpa using h)]
theorem sorted_run {src : Value} {vs : List V} {us : List Value} {ds ys : List D} {Q : VK} (I : Inv X pins σ H s) (m : ∀ a o, F a = some o → H a = some o) (rv : Vals vs us) (p : Reps X.kw F H vs ds []) (hs : srtD ds = some ys) (hu : X.A.units + 200 < cLine)
    (hcol : ∀ (R : List Value → Shared → Prop) (E : Value → Shared → Prop), (∀ h' tk, (∀ b o, s.heap.get? b = some o → h'.get? b = some o) → R us { s with heap := h', toks := tk }) → wpAny (model X.prog X.w) X.A.in1 (collect src) R E s)
    (q : ∀ p zs, H p = none → Reps X.kw F H zs ys [] → Q (.ref p) (upd H p (.lst zs))) : wpAny (model X.prog X.w) X.A (call (.builtin "sorted") [src]) (EP X pins σ Q) X.xe s := by
  unfold srtD at hs
  split at hs
  · rename_i hok
    cases hs
    rw [Bool.and_eq_true, decide_eq_true_eq] at hok
    obtain ⟨h0, h1, h2⟩ := srt_al hok.1
    have hl := p.len
    have hlu := rv.length
    have hsz : us.length ≤ sizeLine := by rw [sl_eq]; omega
    refine Calls.call_function_entry PyProof.Rows.kind_sorted PyProof.Rows.plain_sorted PyProof.Rows.entry_sorted (PyProof.Rows.args_sorted1 _) ?_
    unfold Builtin.«sorted»
    refine wpAny_bind (m := checkCount "sorted" 1 1 _) (wpAny_pure ?_)
    refine wpAny_bind (hcol _ _ fun h' tk hk => ?_)
    have I1 : Inv X pins σ H { s with heap := h', toks := tk } := I.kept hk
    refine wpAny_bind (wpAny_newList ?_ hsz)
    have hoL : (h'.push (seqObj "list" us.toArray 0)).get? h'.objs.size = some (seqObj "list" us.toArray 0) := Heap.get?_push_size _ rfl
    show wpAny _ _ _ _ _ { s with heap := h'.push (seqObj "list" us.toArray 0), toks := tk }
    have hk2 : ∀ b o, s.heap.get? b = some o → (PySem.W.sortingHeap (h'.push (seqObj "list" us.toArray 0)) h'.objs.size us).get? b = some o := fun b o e => by
      have e2 := hk b o e
      exact PySem.W.sortingHeap_old (Nat.ne_of_lt (Heap.lt_size e2)) (Heap.get?_push_of_some _ e2)
    obtain ⟨e1, e2⟩ := each_zip I m hk2 p rv h0
    have em : (vs.zip ds).map (fun b => b.2.py) = ds.map D.py := by
      have := congrArg (List.map D.py) (zip_snd hl)
      rw [List.map_map] at this
      exact this
    have hal : PySem.W.AllAlike ((vs.zip ds).map fun b => b.2.py) := by rw [em]; exact all_alike h1
    have S : PySem.W.SortsAt X.prog X.w X.A.in1.in1 { s with heap := PySem.W.sortingHeap (h'.push (seqObj "list" us.toArray 0)) h'.objs.size us, toks := tk } _ us :=
      PySem.W.SortsAt.data (s := { s with heap := PySem.W.sortingHeap (h'.push (seqObj "list" us.toArray 0)) h'.objs.size us, toks := tk }) (PySem.W.each_map (R := fun v d => ∃ as, Reads (PySem.W.sortingHeap (h'.push (seqObj "list" us.toArray 0)) h'.objs.size us) v d as) (fun b : V × D => b.2.py) e2) hal (by rw [em]; exact h2) fun d hd => by
        rw [em] at hd
        obtain ⟨x, hx, rfl⟩ := List.mem_map.mp hd
        have hx1 := dep_le64 h0 x hx
        have hx2 := py_dep x (by omega)
        show X.A.units + 1 + 1 + x.py.depth < cLine
        omega
    refine wpAny_bind (wpAny_holding (wpAny_call_entry PyProof.Rows.slot_list_sort ⟨_, hoL, rfl⟩ PyProof.Rows.entry_list_sort
      (PySem.W.list_sort_vals (s := { s with heap := h'.push (seqObj "list" us.toArray 0), toks := tk }) hoL S hsz ⟨_, rfl, ?_⟩) (PyProof.Rows.args_list_sort _)))
    have out := PySem.W.sortVals_data (h' := PySem.W.sortingHeap (h'.push (seqObj "list" us.toArray 0)) h'.objs.size us) false e1 e2 hal
    obtain ⟨e', he'⟩ := PyProof.Rows.sortedHeap_at (vs := us) (out := (PySem.W.sortVals (PySem.W.dataKind (PySem.W.sortingHeap (h'.push (seqObj "list" us.toArray 0)) h'.objs.size us) ((vs.zip ds).map fun b => b.2.py)) false us us).toArray) hoL
    have hrv := vals_each out
    have hmem : ∀ b ∈ (vs.zip ds).mergeSort (PySem.W.dataLe false fun b : V × D => b.2.py), Rep X.kw F H b.1 b.2 [] := fun b hb => zip_rep p b ((List.mergeSort_perm ..).mem_iff.mp hb)
    have hD : ((vs.zip ds).mergeSort (PySem.W.dataLe false fun b : V × D => b.2.py)).map (·.2) = ds.mergeSort leD := by
      rw [PySem.W.sort_maps (s := leD) (fun b : V × D => b.2), zip_snd hl]
      intro a ha b hb
      rw [PySem.W.dataLe_eq]
      exact leD_py h0 h1 a.2 (List.of_mem_zip (a := a.1) (b := a.2) ha).2 b.2 (List.of_mem_zip (a := b.1) (b := b.2) hb).2
    have hR := reps_zip hmem
    rw [hD] at hR
    have hlen : (((vs.zip ds).mergeSort (PySem.W.dataLe false fun b : V × D => b.2.py)).map (·.1)).length ≤ sizeLine := by
      rw [List.length_map, (List.mergeSort_perm ..).length_eq, List.length_zip, sl_eq]
      omega
    refine wpAny_pure ⟨_, rfl, .ref h'.objs.size, upd H h'.objs.size (.lst _), I1.laid (t' := tk) (fun b u e => ?_) (Nat.le_refl _)
      (show ObjOk X.prog X.w _ _ _ (.lst _) from ⟨hlen, _, e', hrv, he'⟩), rfl, q _ _ (I1.hok.fresh (Nat.le_refl _)) hR⟩
    have hb : b < h'.objs.size := Heap.lt_size e
    rw [PyProof.Rows.sortedHeap_old (Nat.ne_of_lt hb) (by rw [size_push']; exact Nat.lt_succ_of_lt hb)]
    exact Heap.get?_push_of_some _ e
  · cases hs
theorem cu_sorted (hc : X.calm = true) (hu : X.A.units + 200 < cLine) : CallR X (.builtin "sorted") (r1 (rU X.kw (un1 .sorted) false)) := by
  intro pins s σ H xs us Q I rs h
  obtain ⟨x, rfl, F, d1, fp1, d, m, r1, e, q⟩ := h
  obtain ⟨u, rfl, ru⟩ := vals1 rs
  cases d1 <;> simp only [un1, reduceCtorEq] at e
  · rename_i ys
    by_cases ho : ownL ys = true
    · rw [if_pos ho] at e; cases e
    · rw [if_neg ho] at e
      rw [Option.map_eq_some_iff] at e
      obtain ⟨zs, e1, rfl⟩ := e
      obtain ⟨a, vs, rfl, t0, t1, p1⟩ := rep_tup m r1
      have p1 := fps_nil p1 (own_false ho)
      obtain rfl : u = .ref a := ru
      obtain ⟨its, rv, ⟨o, h1, h2, n, h3⟩, hz⟩ := I.tuple t1
      exact sorted_run I m rv p1 e1 hu (fun R E hR => by
        have hz2 := rv.length
        refine wpAny_collect_seq a (.inr rfl) h1 h2 h3 (fun h' hk => ?_) (by rw [List.size_toArray]; omega)
        simpa using hR h' s.toks hk) fun p zs hp hr => give_lst m hp hr q
  · rename_i o ys
    by_cases ho : ownL ys = true
    · rw [if_pos ho] at e; cases e
    · rw [if_neg ho] at e
      rw [Option.map_eq_some_iff] at e
      obtain ⟨zs, e1, rfl⟩ := e
      obtain ⟨a, vs, f0, rfl, t1, p1, hf⟩ := rep_lst m r1
      have p1 := fps_nil p1 (own_false ho)
      obtain rfl : u = .ref a := ru
      obtain ⟨its, rv, ⟨o, n, h1, h2, hdd, h3⟩, hz⟩ := I.list t1
      exact sorted_run I m rv p1 e1 hu (fun R E hR => by
        have hz2 := rv.length
        refine wpAny_collect_seq a (.inl rfl) h1 h2 h3 (fun h' hk => ?_) (by rw [List.size_toArray]; omega)
        simpa using hR h' s.toks hk) fun p zs hp hr => give_lst m hp hr q
  · rename_i o kvs
    rw [Option.map_eq_some_iff] at e
    obtain ⟨zs, e1, rfl⟩ := e
    obtain ⟨a, o, zs, fq, rfl, dc, _, _⟩ := rep_dct m r1
    obtain rfl : u = .ref a := ru
    obtain ⟨es, ep, e2, e3⟩ := dc.ok.es
    have hzl : zs.length = kvs.length := by have := congrArg List.length dc.k; simpa using this
    have hel : es.size = zs.length := by have := Paired.length e3; simpa using this.symm
    refine sorted_run I m (keys_vals (F := F) (H := H) (K := X.kw) e3) (keys_reps dc.p) e1 hu (fun R E hR => ?_) fun p zs hp hr => give_lst m hp hr q
    refine PySem.W.kdu_collect (A := X.A.in1) (kdl_raw dc.ok.sm dc.ok.ex e2) (I.ok.hd hc) (do_get I dc.at_) (by rw [hel]; exact dc.ok.sz) fun h' tk acc hk it => ?_
    have ea : acc.toList = es.toList.map (·.key) := by
      have hl : acc.toList.length = es.size := by rw [Array.length_toList, it.1]
      apply List.ext_getElem?
      intro j
      rw [List.getElem?_map]
      cases hj : acc.toList[j]? with
      | none =>
        have h1 := List.getElem?_eq_none_iff.mp hj
        rw [List.getElem?_eq_none (by rw [Array.length_toList]; omega)]
        rfl
      | some w =>
        obtain ⟨en, hen, hv⟩ := it.2 j w (by rw [← Array.getElem?_toList]; exact hj)
        rw [Array.getElem?_toList, hen, hv]
        rfl
    rw [ea]
    exact hR h' tk hk
end
end Z

set_option Elab.async false
set_option linter.all false
set_option maxRecDepth 100000
namespace Z
open PySem PySem.Spec PyProof.Rows L2

/-! ### freezing -/
def fzH (F H : Hp) (fp : List Addr) : Hp := fun a => if a ∈ fp then H a else F a
section
variable {K : Kw} {F H F1 H1 F2 H2 : Hp} {σ : L2.St} {s s1 s2 : Env} {fps fps1 fps2 : Fps} {mv mv1 mv2 vw : List Nat} {v : V} {d : D} {fp : List Addr}
theorem fzH_in {a : Addr} (h : a ∈ fp) : fzH F H fp a = H a := if_pos h
theorem fzH_out {a : Addr} (h : a ∉ fp) : fzH F H fp a = F a := if_neg h
theorem fzH_f (m : ∀ a o, F a = some o → H a = some o) : ∀ a o, F a = some o → fzH F H fp a = some o := fun a o e => by
  by_cases h : a ∈ fp
  · rw [fzH_in h]; exact m a o e
  · rw [fzH_out h]; exact e
theorem fzH_sub (m : ∀ a o, F a = some o → H a = some o) : ∀ a o, fzH F H fp a = some o → H a = some o := fun a o e => by
  by_cases h : a ∈ fp
  · rw [fzH_in h] at e; exact e
  · rw [fzH_out h] at e; exact m a o e
theorem fzH_ne {a : Addr} (h : fzH F H fp a ≠ none) : F a ≠ none ∨ a ∈ fp := by
  by_cases q : a ∈ fp
  · exact .inr q
  · rw [fzH_out q] at h; exact .inl h
theorem Rep.frzd (m : ∀ a o, F a = some o → H a = some o) (r : Rep K F H v d fp) : Rep K (fzH F H fp) H v d.frz [] := r.frz (fzH_f m) fun a ha o e => by rw [fzH_in ha]; exact e
theorem Rep.frzo (m : ∀ a o, F a = some o → H a = some o) {w : V} {e : D} {fq : List Addr} (r : Rep K F H w e fq) (h : ∀ a ∈ fq, a ∉ fp) : Rep K (fzH F H fp) H w e fq := r.mono (fzH_f m) fun a ha => ⟨fun _ e => e, by rw [fzH_out (h a ha)]; exact (r.own a ha).1⟩
theorem get_set {s : Env} {i j : Nat} {o : Option D} (hi : i < s.length) : get (s.set i o) j = if j = i then o else get s j := by
  unfold get
  rw [List.getD_eq_getElem?_getD, List.getD_eq_getElem?_getD, List.getElem?_set]
  by_cases h : i = j
  · subst h; simp [hi]
  · have : ¬ j = i := fun e => h e.symm
    simp [h, this]
theorem get_lt {s : Env} {i : Nat} {d : D} (h : get s i = some d) : i < s.length := by
  unfold get at h
  rw [List.getD_eq_getElem?_getD] at h
  cases e : s[i]? with
  | none => rw [e] at h; cases h
  | some x => exact (List.getElem?_eq_some_iff.mp e).1
/-- a slot is frozen -/
theorem Rel.frzd (R : Rel K F H σ s fps) {i : Nat} (e : get s i = some d) :
    Rel K (fzH F H (fps i)) H σ (s.set i (some d.frz)) (fun j => if j = i then [] else fps j) ∧ Stp [i] F H s fps (fzH F H (fps i)) H (s.set i (some d.frz)) (fun j => if j = i then [] else fps j) := by
  have hi := get_lt e
  refine ⟨⟨fzH_sub R.sub, by rw [List.length_set]; exact R.len, fun j d' e' => ?_, fun j e' => ?_, fun j k hjk a ha => ?_⟩, ⟨fzH_f R.sub, fun _ _ e _ => e, fun a h => ?_, fun j hj a ha => ?_, fun j hj => ?_, fun _ e => e⟩⟩
  · rw [get_set hi] at e'
    by_cases h : j = i
    · subst h
      rw [if_pos rfl] at e'
      cases e'
      obtain ⟨v, h1, r⟩ := R.rep j d e
      exact ⟨v, h1, by simp only [if_true]; exact r.frzd R.sub⟩
    · rw [if_neg h] at e'
      obtain ⟨v, h1, r⟩ := R.rep j d' e'
      exact ⟨v, h1, by simp only [if_neg h]; exact r.frzo R.sub (R.dis j i h)⟩
  · rw [get_set hi] at e'
    by_cases h : j = i
    · simp [h]
    · rw [if_neg h] at e'; simp only [if_neg h]; exact R.nil j e'
  · by_cases h : j = i
    · simp [h] at ha
    · simp only [if_neg h] at ha
      by_cases h2 : k = i
      · simp [h2]
      · simp only [if_neg h2]; exact R.dis j k hjk a ha
  · rcases fzH_ne h with q | q
    · exact .inl q
    · exact .inr (.inr ⟨i, List.mem_singleton.mpr rfl, q⟩)
  · have : j = i := List.mem_singleton.mp hj
    simp [this] at ha
  · have : j ≠ i := fun z => hj (List.mem_singleton.mpr z)
    exact ⟨by rw [get_set hi, if_neg this], by simp [this]⟩
/-- a temporary is frozen -/
theorem Rel.frzt (R : Rel K F H σ s fps) (hn : ∀ a ∈ fp, ∀ j, a ∉ fps j) : Rel K (fzH F H fp) H σ s fps := ⟨fzH_sub R.sub, R.len, fun j d e => by
  obtain ⟨v, h1, r⟩ := R.rep j d e
  exact ⟨v, h1, r.frzo R.sub fun a ha z => hn a z j ha⟩, R.nil, R.dis⟩
theorem Stp.frzt {F0 H0 : Hp} {s0 : Env} {fps0 : Fps} (st : Stp mv F0 H0 s0 fps0 F H s fps) (m : ∀ a o, F a = some o → H a = some o) (hn : ∀ a ∈ fp, H0 a = none ∨ ∃ j ∈ mv, a ∈ fps0 j) : Stp mv F0 H0 s0 fps0 (fzH F H fp) H s fps :=
  ⟨fun a o e => fzH_f m a o (st.f a o e), st.h, fun a e => by
    rcases fzH_ne e with q | q
    · exact st.nf a q
    · exact .inr (hn a q), st.u, st.o, st.d⟩
/-- a slot is emptied -/
theorem Rel.moved (R : Rel K F H σ s fps) {i : Nat} (hi : i < s.length) :
    Rel K F H σ (s.set i none) (fun j => if j = i then [] else fps j) ∧ Stp [i] F H s fps F H (s.set i none) (fun j => if j = i then [] else fps j) := by
  refine ⟨⟨R.sub, by rw [List.length_set]; exact R.len, fun j d' e' => ?_, fun j e' => ?_, fun j k hjk a ha => ?_⟩, ⟨fun _ _ e => e, fun _ _ e _ => e, fun a h => .inl h, fun j hj a ha => ?_, fun j hj => ?_, fun _ e => e⟩⟩
  · rw [get_set hi] at e'
    by_cases h : j = i
    · rw [if_pos h] at e'; cases e'
    · rw [if_neg h] at e'
      obtain ⟨v, h1, r⟩ := R.rep j d' e'
      exact ⟨v, h1, by simp only [if_neg h]; exact r⟩
  · rw [get_set hi] at e'
    by_cases h : j = i
    · simp [h]
    · rw [if_neg h] at e'; simp only [if_neg h]; exact R.nil j e'
  · by_cases h : j = i
    · simp [h] at ha
    · simp only [if_neg h] at ha
      by_cases h2 : k = i
      · simp [h2]
      · simp only [if_neg h2]; exact R.dis j k hjk a ha
  · have : j = i := List.mem_singleton.mp hj
    simp [this] at ha
  · have : j ≠ i := fun z => hj (List.mem_singleton.mpr z)
    exact ⟨by rw [get_set hi, if_neg this], by simp [this]⟩
end

/-! ### names, constants -/
section
variable {X : Cx} {pos : Pos}
theorem se_var {i : Nat} {x : Str} (h : PE X (.Name x pos) (tVar i)) : PE X (.Name x pos) (tE X.kw [] [i] fun s => R.of (get s i) s) := pe_imp h fun σ H Q h => by
  obtain ⟨F, s, fps, R, h⟩ := h
  cases e : get s i with
  | none => simp only [e, of_none] at h
  | some d =>
    simp only [e, of_some] at h
    obtain ⟨v, h1, r⟩ := R.rep i d e
    exact ⟨v, h1, h v H F fps _ R .refl ⟨r, fun a ha => .inl ⟨i, List.mem_singleton.mpr rfl, ha⟩⟩⟩
theorem se_fr {i : Nat} {x : Str} (h : PE X (.Name x pos) (tVar i)) : PE X (.Name x pos) (tE X.kw [i] [] fun s => match get s i with | some d => .ok d.frz (s.set i (some d.frz)) | none => .bad) := pe_imp h fun σ H Q h => by
  obtain ⟨F, s, fps, R, h⟩ := h
  cases e : get s i with
  | none => simp only [e] at h
  | some d =>
    simp only [e] at h
    obtain ⟨v, h1, r⟩ := R.rep i d e
    obtain ⟨R', st⟩ := R.frzd e
    exact ⟨v, h1, h v H _ _ [] R' st ⟨r.frzd R.sub, fun a ha => nomatch ha⟩⟩
theorem se_mov {i : Nat} {x : Str} (h : PE X (.Name x pos) (tVar i)) : PE X (.Name x pos) (tE X.kw [i] [] fun s => match get s i with | some d => .ok d (s.set i none) | none => .bad) := pe_imp h fun σ H Q h => by
  obtain ⟨F, s, fps, R, h⟩ := h
  cases e : get s i with
  | none => simp only [e] at h
  | some d =>
    simp only [e] at h
    obtain ⟨v, h1, r⟩ := R.rep i d e
    obtain ⟨R', st⟩ := R.moved (get_lt e)
    refine ⟨v, h1, h v H _ _ _ R' st ⟨r, fun a ha => .inr ⟨fun j z => ?_, .inr ⟨i, List.mem_singleton.mpr rfl, ha⟩⟩⟩⟩
    by_cases hj : j = i
    · simp [hj] at z
    · simp only [if_neg hj] at z
      exact R.dis i j (fun q => hj q.symm) a ha z
theorem se_c {e : Expr} {v : V} {d : D} (h : PE X e (tC v)) (r : ∀ F H, Rep X.kw F H v d []) : PE X e (tE X.kw [] [] fun s => .ok d s) := pe_imp h fun σ H Q h => by
  obtain ⟨F, s, fps, R, h⟩ := h
  exact h v H F fps [] R .refl ⟨r F H, fun a ha => nomatch ha⟩
theorem se_weak {e : Expr} {mv vw mv' vw' : List Nat} {f : Env → R D} (h : PE X e (tE X.kw mv vw f)) (m : ∀ j ∈ mv, j ∈ mv') (w : ∀ j ∈ vw, j ∈ vw') : PE X e (tE X.kw mv' vw' f) := pe_imp h fun σ H Q h => by
  obtain ⟨F, s, fps, R, h⟩ := h
  refine ⟨F, s, fps, R, ?_⟩
  cases e : f s with
  | exc x s' => rw [e] at h; exact h
  | bad => rw [e] at h; exact h
  | ok d s' =>
    rw [e] at h
    exact fun v H' F' fps' fp R' st rs => h v H' F' fps' fp R' (st.weak m) ⟨rs.rep, fun a ha => by
      rcases rs.fr a ha with ⟨j, hj, q⟩ | ⟨q, y⟩
      · exact .inl ⟨j, w j hj, q⟩
      · refine .inr ⟨q, ?_⟩
        rcases y with y | ⟨j, hj, y⟩
        · exact .inl y
        · exact .inr ⟨j, m j hj, y⟩⟩
/-- owns nothing -/
theorem se_val {e : Expr} {mv vw : List Nat} {f : Env → R D} (h : PE X e (tE X.kw mv vw f)) : PE X e (tE X.kw mv [] fun s => (f s).bind fun d s => if d.own then .bad else .ok d s) := pe_imp h fun σ H Q h => by
  obtain ⟨F, s, fps, R, h⟩ := h
  refine ⟨F, s, fps, R, ?_⟩
  try dsimp only at h
  cases e : f s with
  | exc x s' => rw [e] at h; exact h
  | bad => rw [e] at h; exact h
  | ok d s' =>
    rw [e] at h
    simp only [bind_ok] at h
    cases ho : d.own with
    | true => rw [ho] at h; exact h.elim
    | false =>
      rw [ho] at h
      exact fun v H' F' fps' fp R' st rs => h v H' F' fps' [] R' st ⟨fp_nil rs.rep ho, fun a ha => nomatch ha⟩
/-- a temporary is frozen -/
theorem se_fz {e : Expr} {mv : List Nat} {f : Env → R D} (h : PE X e (tE X.kw mv [] f)) : PE X e (tE X.kw mv [] fun s => (f s).bind fun d s => .ok d.frz s) := pe_imp h fun σ H Q h => by
  obtain ⟨F, s, fps, R, h⟩ := h
  refine ⟨F, s, fps, R, ?_⟩
  try dsimp only at h
  cases e : f s with
  | exc x s' => rw [e] at h; exact h
  | bad => rw [e] at h; exact h
  | ok d s' =>
    rw [e] at h
    simp only [bind_ok] at h
    refine fun v H' F' fps' fp R' st rs => ?_
    have hn : ∀ a ∈ fp, (∀ j, a ∉ fps' j) ∧ (H a = none ∨ ∃ j ∈ mv, a ∈ fps j) := fun a ha => by
      rcases rs.fr a ha with ⟨j, hj, _⟩ | q
      · cases hj
      · exact q
    exact h v H' _ fps' [] (R'.frzt fun a ha => (hn a ha).1) (st.frzt R'.sub fun a ha => (hn a ha).2) ⟨rs.rep.frzd R'.sub, fun a ha => nomatch ha⟩

/-! ### operations -/
theorem se_un {e : Expr} {x : Expr} {mva vwa : List Nat} {fa : Env → R D} {g : D → Option D} (h : PE X e (tUn (rU X.kw g false) (tE X.kw mva vwa fa))) : PE X e (tE X.kw mva [] fun s => (fa s).bind fun x s => R.of (g x) s) := pe_imp h fun σ H Q h => tE_un (vf := false) h
theorem se_op {e : Expr} {mva vwa mvb vwb : List Nat} {fa fb : Env → R D} {k : Bool} {g : D → D → Option D} (hk : k = true ∨ disj vwa mvb = true) (h : PE X e (tOp (rO X.kw g false) (tE X.kw mva vwa fa) (tE X.kw mvb vwb fb))) :
    PE X e (tE X.kw (mva ++ mvb) [] fun s => (fa s).bind fun x s => (fb s).bind fun y s => if k && x.own then .bad else R.of (g x y) s) := pe_imp h fun σ H Q h => tE_two (vf := false) hk h
theorem se_opv {e : Expr} {mva vwa mvb vwb : List Nat} {fa fb : Env → R D} {k : Bool} {g : D → D → Option D} (hk : k = true ∨ disj vwa mvb = true) (h : PE X e (tOp (rO X.kw g true) (tE X.kw mva vwa fa) (tE X.kw mvb vwb fb))) :
    PE X e (tE X.kw (mva ++ mvb) vwa fun s => (fa s).bind fun x s => (fb s).bind fun y s => if k && x.own then .bad else R.of (g x y) s) := pe_imp h fun σ H Q h => tE_two (vf := true) hk h
end

/-! ### arguments -/
def tA (K : Kw) (mv : List Nat) (f : Env → R (List D)) : TA := fun σ H Q => ∃ F s fps, Rel K F H σ s fps ∧ match f s with
  | .ok ds s' => ∀ vs H' F' fps' fp, Rel K F' H' σ s' fps' → Stp mv F H s fps F' H' s' fps' → Reps K F' H' vs ds fp → (∀ a ∈ fp, (∀ j, a ∉ fps' j) ∧ (H a = none ∨ ∃ j ∈ mv, a ∈ fps j)) → Q vs H'
  | _ => False
theorem pa_imp {X : Cx} {es : List Expr} {t t' : TA} (h : PA X es t) (i : ∀ σ H Q, t' σ H Q → t σ H Q) : PA X es t' := ⟨fun pos pins s σ H Q I q => h.run pos pins s σ H Q I (i _ _ _ q)⟩
theorem disj_nil {mv : List Nat} : disj [] mv = true := rfl
section
variable {X : Cx} {pos : Pos}
theorem sa_nil : PA X [] (tA X.kw [] fun s => .ok [] s) := pa_imp pa_nil fun σ H Q h => by
  obtain ⟨F, s, fps, R, h⟩ := h
  exact h [] H F fps [] R .refl .nil fun a ha => nomatch ha
theorem sa_cons {e : Expr} {es : List Expr} {mva mvb : List Nat} {fa : Env → R D} {fb : Env → R (List D)} (ha : PE X e (tE X.kw mva [] fa)) (hb : PA X es (tA X.kw mvb fb)) (hs : starEach (e :: es) X.env = (false, eval e X.env) :: starEach es X.env) :
    PA X (e :: es) (tA X.kw (mva ++ mvb) fun s => (fa s).bind fun d s => (fb s).bind fun ds s => .ok (d :: ds) s) := pa_imp (pa_cons ha hb hs) fun σ H Q h => by
  obtain ⟨F, s, fps, R, h⟩ := h
  refine ⟨F, s, fps, R, ?_⟩
  try dsimp only at h
  cases ea : fa s with
  | exc x s' => rw [ea] at h; exact h
  | bad => rw [ea] at h; exact h
  | ok d s1 =>
    rw [ea] at h
    simp only [bind_ok] at h
    refine fun x H1 F1 fps1 fp1 R1 st1 rs1 => ⟨F1, s1, fps1, R1, ?_⟩
    cases eb : fb s1 with
    | exc x s' => rw [eb] at h; exact h
    | bad => rw [eb] at h; exact h
    | ok ds s2 =>
      rw [eb] at h
      simp only [bind_ok] at h
      refine fun ys H2 F2 fps2 fp2 R2 st2 rs2 hf => ?_
      have r := rs1.on R1 st2 (.inl disj_nil)
      refine h (x :: ys) H2 F2 fps2 (fp1 ++ fp2) R2 (st1.trans st2) (.cons r.rep rs2 fun a ha z => ?_) fun a ha => ?_
      · obtain ⟨_, o, ho, _⟩ := rs1.rep.own a ha
        rcases (hf a z).2 with q | ⟨j, _, q⟩
        · rw [ho] at q; cases q
        · rcases rs1.fr a ha with ⟨j, hj, _⟩ | ⟨y, _⟩
          · cases hj
          · exact y j q
      · rcases List.mem_append.mp ha with ha | ha
        · rcases r.fr a ha with ⟨j, hj, _⟩ | q
          · cases hj
          · exact q
        · refine ⟨(hf a ha).1, ?_⟩
          rcases (hf a ha).2 with q | ⟨j, hj, q⟩
          · exact .inl (st1.d a q)
          · rcases st1.back q with y | ⟨i, hi, y⟩ | ⟨_, y⟩
            · exact .inl y
            · exact .inr ⟨i, List.mem_append_left _ hi, y⟩
            · exact .inr ⟨j, List.mem_append_right _ hj, y⟩
theorem se_tup {es : List Expr} {x1 : Nat} {mv : List Nat} {f : Env → R (List D)} (h : PA X es (tA X.kw mv f)) (hl : ∀ s ds s', f s = .ok ds s' → ds.length ≤ SL) : PE X (.Tuple es x1 pos) (tE X.kw mv [] fun s => (f s).bind fun ds s => .ok (.tup ds) s) := pe_imp (pe_tupP h) fun σ H Q h => by
  obtain ⟨F, s, fps, R, h⟩ := h
  refine ⟨F, s, fps, R, ?_⟩
  try dsimp only at h
  cases e : f s with
  | exc x s' => rw [e] at h; exact h
  | bad => rw [e] at h; exact h
  | ok ds s' =>
    rw [e] at h
    simp only [bind_ok] at h
    refine fun vs H' F' fps' fp R' st rs hf => ⟨by rw [rs.len, sl_eq]; exact hl s ds s' e, fun p us hp => ?_⟩
    have x := Ext.frz (o := .frz (tupO us) (.tup vs)) R'.sub hp
    have st2 := st.trans (x.stp (mv := []) (s := s') (fps := fps'))
    rw [List.append_nil] at st2
    exact h (.ref p) _ _ fps' fp (R'.ext x) st2 ⟨.tup (TP.of upd_same rfl rfl) (rs.ext x), fun a ha => .inr (hf a ha)⟩
theorem se_lst {es : List Expr} {mv : List Nat} {f : Env → R (List D)} (h : PA X es (tA X.kw mv f)) (hl : ∀ s ds s', f s = .ok ds s' → ds.length ≤ SL) : PE X (.List es pos) (tE X.kw mv [] fun s => (f s).bind fun ds s => .ok (.lst true ds) s) := pe_imp (pe_lst h) fun σ H Q h => by
  obtain ⟨F, s, fps, R, h⟩ := h
  refine ⟨F, s, fps, R, ?_⟩
  try dsimp only at h
  cases e : f s with
  | exc x s' => rw [e] at h; exact h
  | bad => rw [e] at h; exact h
  | ok ds s' =>
    rw [e] at h
    simp only [bind_ok] at h
    refine fun vs H' F' fps' fp R' st rs hf => ⟨by rw [rs.len, sl_eq]; exact hl s ds s' e, fun p hp => ?_⟩
    have x := Ext.own (o := .lst vs) R'.sub hp
    have st2 := st.trans (x.stp (mv := []) (s := s') (fps := fps'))
    rw [List.append_nil] at st2
    have hfp : F' p = none := by
      cases e : F' p with
      | none => rfl
      | some o => rw [R'.sub _ _ e] at hp; cases hp
    have hno : p ∉ fp := fun z => by
      obtain ⟨_, o, ho, _⟩ := rs.own p z
      rw [hp] at ho; cases ho
    refine h (.ref p) _ _ fps' (p :: fp) (R'.ext x) st2 ⟨.lstO upd_same hfp (rs.ext x) hno, fun a ha => .inr ?_⟩
    rcases List.mem_cons.mp ha with z | z
    · subst z
      refine ⟨fun j z => ?_, .inl (st.d a hp)⟩
      obtain ⟨_, o, ho, _⟩ := R'.there z
      rw [hp] at ho; cases ho
    · exact hf a z
end
end Z

set_option Elab.async false
set_option linter.all false
set_option maxRecDepth 100000
namespace Z
open PySem PySem.Spec PyProof.Rows L2

section
variable {X : Cx} {pos : Pos}
/-! ### slices -/
def tP (K : Kw) (mv : List Nat) (p : Bool) (f : Env → R D) : TO := fun σ H Q => ∃ F s fps, Rel K F H σ s fps ∧ match f s with
  | .ok d s' => (match endOf p d with
    | some l => ∀ H' F' fps', Rel K F' H' σ s' fps' → Stp mv F H s fps F' H' s' fps' → Q l H'
    | none => False)
  | _ => False
theorem po_imp {e : Option Expr} {t t' : TO} (h : PO X e t) (i : ∀ σ H Q, t' σ H Q → t σ H Q) : PO X e t' := ⟨fun pins s σ H Q I q => h.run pins s σ H Q I (i _ _ _ q)⟩
theorem sp_none : PO X none (tP X.kw [] false fun s => .ok .non s) := po_imp po_none fun σ H Q h => by
  obtain ⟨F, s, fps, R, h⟩ := h
  exact h H F fps R .refl
theorem sp_some {e : Expr} {mv vw : List Nat} {f : Env → R D} (h : PE X e (tE X.kw mv vw f)) : PO X (some e) (tP X.kw mv true f) := po_imp (po_some h) fun σ H Q h => by
  obtain ⟨F, s, fps, R, h⟩ := h
  refine ⟨F, s, fps, R, ?_⟩
  cases e : f s with
  | exc x s' => rw [e] at h; exact h
  | bad => rw [e] at h; exact h
  | ok d s' =>
    rw [e] at h
    refine fun v H' F' fps' fp R' st rs => ?_
    cases d <;> simp only [endOf] at h
    obtain ⟨rfl, _⟩ := rep_int rs.rep
    exact ⟨_, rfl, h H' F' fps' R' st⟩
theorem disj_sub {vw m1 m2 : List Nat} (h : disj vw m2 = true) (hs : ∀ i ∈ m1, i ∈ m2) : disj vw m1 = true := by
  unfold disj at h ⊢
  rw [List.all_eq_true] at h ⊢
  intro i hi
  have := h i hi
  simp only [Bool.not_eq_true', List.contains_eq_mem, decide_eq_false_iff_not] at this ⊢
  exact fun z => this (hs i z)
theorem se_slc {e : Expr} {lo hi : Option Expr} {p2 : Pos} {mva vwa mvb mvc : List Nat} {k p q : Bool} {fa fb fc : Env → R D} (hk : k = true ∨ disj vwa (mvb ++ mvc) = true) (ha : PE X e (tE X.kw mva vwa fa)) (hb : PO X lo (tP X.kw mvb p fb)) (hc : PO X hi (tP X.kw mvc q fc)) :
    PE X (.Subscript e (.Slice lo hi none p2) pos) (tE X.kw (mva ++ mvb ++ mvc) [] fun s => (fa s).bind fun x s => (fb s).bind fun l s => (fc s).bind fun h s => if k && x.own then .bad else R.of (slice3 p q x l h) s) :=
  pe_imp (pe_slice sr_sl ha hb hc) fun σ H Q h => by
  obtain ⟨F, s, fps, R, h⟩ := h
  refine ⟨F, s, fps, R, ?_⟩
  try dsimp only at h
  cases ea : fa s with
  | exc x s' => rw [ea] at h; exact h
  | bad => rw [ea] at h; exact h
  | ok d1 s1 =>
    rw [ea] at h
    simp only [bind_ok] at h
    refine fun x H1 F1 fps1 fp1 R1 st1 rs1 => ⟨F1, s1, fps1, R1, ?_⟩
    cases eb : fb s1 with
    | exc x s' => rw [eb] at h; exact h
    | bad => rw [eb] at h; exact h
    | ok d2 s2 =>
      rw [eb] at h
      simp only [bind_ok] at h
      try dsimp only
      cases el : endOf p d2 with
      | none =>
        try dsimp only
        cases ec : fc s2 with
        | exc x s' => rw [ec] at h; exact h
        | bad => rw [ec] at h; exact h
        | ok d3 s3 =>
          rw [ec] at h
          simp only [bind_ok, slice3, el, Option.bind_none, of_none, ite_self] at h
      | some l =>
        refine fun H2 F2 fps2 R2 st2 => ⟨F2, s2, fps2, R2, ?_⟩
        cases ec : fc s2 with
        | exc x s' => rw [ec] at h; exact h
        | bad => rw [ec] at h; exact h
        | ok d3 s3 =>
          rw [ec] at h
          simp only [bind_ok, slice3, el, Option.bind_some] at h
          cases ho : k && d1.own with
          | true => rw [ho] at h; exact h.elim
          | false =>
            have hj : (disj vwa mvb = true ∨ d1.own = false) ∧ (disj vwa mvc = true ∨ d1.own = false) := by
              rcases hk with z | z
              · rw [z, Bool.true_and] at ho
                exact ⟨.inr ho, .inr ho⟩
              · exact ⟨.inl (disj_sub z fun _ q => List.mem_append_left _ q), .inl (disj_sub z fun _ q => List.mem_append_right _ q)⟩
            rw [ho] at h
            simp only [Bool.false_eq_true, if_false] at h
            cases er : endOf q d3 with
            | none => rw [er] at h; exact h.elim
            | some r =>
              rw [er] at h
              simp only [Option.bind_some] at h
              try dsimp only
              rw [er]
              refine fun H3 F3 fps3 R3 st3 => ?_
              cases eg : slice2 d1 l r with
              | none => rw [eg] at h; exact h.elim
              | some d =>
                rw [eg] at h
                have rs2 := (rs1.on R1 st2 hj.1).on R2 st3 hj.2
                exact ⟨F3, d1, fp1, d, R3.sub, rs2.rep, eg, give_res (vf := false) (vwa := vwa) R3 ((st1.trans st2).trans st3) rs2 h⟩

/-! ### tests -/
theorem pt_of {e : Expr} {mv vw : List Nat} {f : Env → R D} {t : TE} (h : PT X e (tB t)) (i : ∀ σ H Q, tE X.kw mv vw f σ H Q → t σ H Q) : PT X e (tT X.kw mv f) := pt_imp h fun σ H Q h => by
  refine i σ H _ ?_
  obtain ⟨F, s, fps, R, h⟩ := h
  refine ⟨F, s, fps, R, ?_⟩
  cases e : f s with
  | exc x s' => rw [e] at h; exact h
  | bad => rw [e] at h; exact h
  | ok d s' =>
    rw [e] at h
    refine fun v H' F' fps' fp R' st rs => ?_
    cases d <;> simp only [asB] at h
    obtain ⟨rfl, _⟩ := rep_bl rs.rep
    exact ⟨_, rfl, h H' F' fps' R' st⟩
theorem st_val {e : Expr} {mv vw : List Nat} {f : Env → R D} (h : PE X e (tE X.kw mv vw f)) (he : ∀ whole, isTrue e X.env whole = (do let v ← whole; standAt e.pos; holding [v] (truthy v))) : PT X e (tT X.kw mv f) := pt_of (pt_val h he) fun σ H Q h => h
theorem asB_some {d : D} {b : Bool} (h : asB d = some b) : d = .bl b := by
  cases d <;> simp only [asB, reduceCtorEq, Option.some.injEq] at h
  rw [h]
/-- not -/
def fNot (f : Env → R D) : Env → R D := fun s => (f s).bind fun x s => R.of (un1 .not x) s
def fAnd (fa fb : Env → R D) : Env → R D := fun s => (fa s).bind fun x s => match asB x with
    | some true => fb s
    | some false => .ok (.bl false) s
    | none => .bad
def fOr (fa fb : Env → R D) : Env → R D := fun s => (fa s).bind fun x s => match asB x with
    | some false => fb s
    | some true => .ok (.bl true) s
    | none => .bad
def fIte (fc fa fb : Env → R D) : Env → R D := fun s => (fc s).bind fun x s => match asB x with
    | some true => fa s
    | some false => fb s
    | none => .bad
theorem st_not {e : Expr} {mv : List Nat} {f : Env → R D} (h : PT X e (tT X.kw mv f)) : PT X (.UnaryOp .Not e pos) (tT X.kw mv (fNot f)) := pt_imp (pt_not h) fun σ H Q h => by
  obtain ⟨F, s, fps, R, h⟩ := h
  refine ⟨F, s, fps, R, ?_⟩
  try dsimp only [fNot] at h
  cases e : f s with
  | exc x s' => rw [e] at h; exact h
  | bad => rw [e] at h; exact h
  | ok d s' =>
    rw [e] at h
    simp only [bind_ok] at h
    cases d <;> simp only [un1, of_none, of_some, asB] at h ⊢
    exact h
theorem se_not {e : Expr} {mv vw : List Nat} {f : Env → R D} (h : PE X e (tE X.kw mv vw f)) : PE X (.UnaryOp .Not e pos) (tE X.kw mv [] (fNot f)) := pe_imp (pe_not h) fun σ H Q h => by
  obtain ⟨F, s, fps, R, h⟩ := h
  refine ⟨F, s, fps, R, ?_⟩
  try dsimp only [fNot] at h
  cases e : f s with
  | exc x s' => rw [e] at h; exact h
  | bad => rw [e] at h; exact h
  | ok d s' =>
    rw [e] at h
    simp only [bind_ok] at h
    refine fun v H' F' fps' fp R' st rs => ?_
    cases d <;> simp only [un1, of_none, of_some] at h
    obtain ⟨rfl, _⟩ := rep_bl rs.rep
    exact ⟨_, rfl, h _ H' F' fps' [] R' st ⟨.bl _, fun a ha => nomatch ha⟩⟩
theorem mem_left {a b : List Nat} : ∀ j ∈ a, j ∈ a ++ b := fun j h => List.mem_append_left _ h
theorem mem_right {a b : List Nat} : ∀ j ∈ b, j ∈ a ++ b := fun j h => List.mem_append_right _ h
/-- e behind an evaluation -/
theorem tE_later {K : Kw} {mv1 mv vw : List Nat} {f : Env → R D} {σ : L2.St} {F H F1 H1 : Hp} {s s1 : Env} {fps fps1 : Fps} {Q : VK} (R1 : Rel K F1 H1 σ s1 fps1) (st1 : Stp mv1 F H s fps F1 H1 s1 fps1)
    (h : match f s1 with
      | .ok d s' => ∀ v H' F' fps' fp, Rel K F' H' σ s' fps' → Stp (mv1 ++ mv) F H s fps F' H' s' fps' → Res K (mv1 ++ mv) vw H fps F' H' fps' v d fp → Q v H'
      | _ => False) : tE K mv vw f σ H1 Q := by
  refine ⟨F1, s1, fps1, R1, ?_⟩
  cases e : f s1 with
  | exc x s' => rw [e] at h; exact h
  | bad => rw [e] at h; exact h
  | ok d s' =>
    rw [e] at h
    exact fun v H' F' fps' fp R' st rs => h v H' F' fps' fp R' (st1.trans st) (rs.later st1)
theorem tT_later {K : Kw} {mv1 mv : List Nat} {f : Env → R D} {σ : L2.St} {F H F1 H1 : Hp} {s s1 : Env} {fps fps1 : Fps} {Q : Bool → Hp → Prop} (R1 : Rel K F1 H1 σ s1 fps1) (st1 : Stp mv1 F H s fps F1 H1 s1 fps1)
    (h : match f s1 with
      | .ok d s' => (match asB d with
        | some b => ∀ H' F' fps', Rel K F' H' σ s' fps' → Stp (mv1 ++ mv) F H s fps F' H' s' fps' → Q b H'
        | none => False)
      | _ => False) : tT K mv f σ H1 Q := by
  refine ⟨F1, s1, fps1, R1, ?_⟩
  cases e : f s1 with
  | exc x s' => rw [e] at h; exact h
  | bad => rw [e] at h; exact h
  | ok d s' =>
    rw [e] at h
    try dsimp only at h ⊢
    cases eb : asB d with
    | none => rw [eb] at h; exact h
    | some b =>
      rw [eb] at h
      exact fun H' F' fps' R' st => h H' F' fps' R' (st1.trans st)
theorem res_weak {K : Kw} {mv1 mv2 vw1 vw2 : List Nat} {H F' H' : Hp} {fps fps' : Fps} {v : V} {d : D} {fp : List Addr} (r : Res K mv1 vw1 H fps F' H' fps' v d fp) (m : ∀ j ∈ mv1, j ∈ mv2) (w : ∀ j ∈ vw1, j ∈ vw2) : Res K mv2 vw2 H fps F' H' fps' v d fp :=
  ⟨r.rep, fun a ha => by
    rcases r.fr a ha with ⟨j, hj, q⟩ | ⟨q, y⟩
    · exact .inl ⟨j, w j hj, q⟩
    · refine .inr ⟨q, ?_⟩
      rcases y with y | ⟨j, hj, y⟩
      · exact .inl y
      · exact .inr ⟨j, m j hj, y⟩⟩
theorem se_and {a b : Expr} {rest : List Expr} {mva vwa mvb vwb : List Nat} {fa fb : Env → R D} (ha : PE X a (tE X.kw mva vwa fa)) (hb : PE X (.BoolOp .And (b :: rest) pos) (tE X.kw mvb vwb fb)) :
    PE X (.BoolOp .And (a :: b :: rest) pos) (tE X.kw (mva ++ mvb) vwb (fAnd fa fb)) := pe_imp (pe_and ha hb) fun σ H Q h => by
  obtain ⟨F, s, fps, R, h⟩ := h
  refine ⟨F, s, fps, R, ?_⟩
  try dsimp only [fAnd] at h
  cases e : fa s with
  | exc x s' => rw [e] at h; exact h
  | bad => rw [e] at h; exact h
  | ok d s' =>
    rw [e] at h
    simp only [bind_ok] at h
    refine fun v H' F' fps' fp R' st rs => ?_
    cases d <;> simp only [asB] at h
    rename_i c
    obtain ⟨rfl, _⟩ := rep_bl rs.rep
    refine ⟨c, rfl, ?_⟩
    cases c with
    | true => exact tE_later R' st h
    | false => exact h _ H' F' fps' [] R' (st.weak mem_left) ⟨.bl _, fun a ha => nomatch ha⟩
theorem se_or {a b : Expr} {rest : List Expr} {mva vwa mvb vwb : List Nat} {fa fb : Env → R D} (ha : PE X a (tE X.kw mva vwa fa)) (hb : PE X (.BoolOp .Or (b :: rest) pos) (tE X.kw mvb vwb fb)) :
    PE X (.BoolOp .Or (a :: b :: rest) pos) (tE X.kw (mva ++ mvb) vwb (fOr fa fb)) := pe_imp (pe_or ha hb) fun σ H Q h => by
  obtain ⟨F, s, fps, R, h⟩ := h
  refine ⟨F, s, fps, R, ?_⟩
  try dsimp only [fOr] at h
  cases e : fa s with
  | exc x s' => rw [e] at h; exact h
  | bad => rw [e] at h; exact h
  | ok d s' =>
    rw [e] at h
    simp only [bind_ok] at h
    refine fun v H' F' fps' fp R' st rs => ?_
    cases d <;> simp only [asB] at h
    rename_i c
    obtain ⟨rfl, _⟩ := rep_bl rs.rep
    refine ⟨c, rfl, ?_⟩
    cases c with
    | false => exact tE_later R' st h
    | true => exact h _ H' F' fps' [] R' (st.weak mem_left) ⟨.bl _, fun a ha => nomatch ha⟩
theorem st_and {a b : Expr} {rest : List Expr} {mva mvb : List Nat} {fa fb : Env → R D} (ha : PT X a (tT X.kw mva fa)) (hb : PW X (.BoolOp .And (b :: rest) pos) (tT X.kw mvb fb)) :
    PW X (.BoolOp .And (a :: b :: rest) pos) (tT X.kw (mva ++ mvb) (fAnd fa fb)) := pw_imp (pw_and ha hb) fun σ H Q h => by
  obtain ⟨F, s, fps, R, h⟩ := h
  refine ⟨F, s, fps, R, ?_⟩
  try dsimp only [fAnd] at h
  cases e : fa s with
  | exc x s' => rw [e] at h; exact h
  | bad => rw [e] at h; exact h
  | ok d s' =>
    rw [e] at h
    simp only [bind_ok] at h
    try dsimp only
    cases eb : asB d with
    | none => rw [eb] at h; exact h
    | some c =>
      rw [eb] at h
      refine fun H' F' fps' R' st => ?_
      cases c with
      | true => exact tT_later R' st h
      | false => exact h H' F' fps' R' (st.weak mem_left)
theorem st_or {a b : Expr} {rest : List Expr} {mva mvb : List Nat} {fa fb : Env → R D} (ha : PT X a (tT X.kw mva fa)) (hb : PW X (.BoolOp .Or (b :: rest) pos) (tT X.kw mvb fb)) :
    PW X (.BoolOp .Or (a :: b :: rest) pos) (tT X.kw (mva ++ mvb) (fOr fa fb)) := pw_imp (pw_or ha hb) fun σ H Q h => by
  obtain ⟨F, s, fps, R, h⟩ := h
  refine ⟨F, s, fps, R, ?_⟩
  try dsimp only [fOr] at h
  cases e : fa s with
  | exc x s' => rw [e] at h; exact h
  | bad => rw [e] at h; exact h
  | ok d s' =>
    rw [e] at h
    simp only [bind_ok] at h
    try dsimp only
    cases eb : asB d with
    | none => rw [eb] at h; exact h
    | some c =>
      rw [eb] at h
      refine fun H' F' fps' R' st => ?_
      cases c with
      | false => exact tT_later R' st h
      | true => exact h H' F' fps' R' (st.weak mem_left)
theorem se_ite {c a b : Expr} {mvc mva vwa mvb vwb : List Nat} {fc fa fb : Env → R D} (hc : PT X c (tT X.kw mvc fc)) (ha : PE X a (tE X.kw mva vwa fa)) (hb : PE X b (tE X.kw mvb vwb fb)) :
    PE X (.IfExp c a b pos) (tE X.kw (mvc ++ (mva ++ mvb)) (vwa ++ vwb) (fIte fc fa fb)) := pe_imp (pe_ifExp hc ha hb) fun σ H Q h => by
  obtain ⟨F, s, fps, R, h⟩ := h
  refine ⟨F, s, fps, R, ?_⟩
  try dsimp only [fIte] at h
  cases e : fc s with
  | exc x s' => rw [e] at h; exact h
  | bad => rw [e] at h; exact h
  | ok d s' =>
    rw [e] at h
    simp only [bind_ok] at h
    try dsimp only
    cases eb : asB d with
    | none => rw [eb] at h; exact h
    | some c =>
      rw [eb] at h
      refine fun H' F' fps' R' st => ?_
      have mm : ∀ {m : List Nat}, (∀ j ∈ m, j ∈ mva ++ mvb) → ∀ j ∈ mvc ++ m, j ∈ mvc ++ (mva ++ mvb) := fun k j hj => by
        rcases List.mem_append.mp hj with q | q
        · exact List.mem_append_left _ q
        · exact List.mem_append_right _ (k j q)
      cases c with
      | true =>
        refine tE_later (mv1 := mvc) (F := F) (H := H) (s := s) (fps := fps) R' st ?_
        cases ea : fa s' with
        | exc x s' => rw [ea] at h; exact h
        | bad => rw [ea] at h; exact h
        | ok d2 s2 =>
          rw [ea] at h
          exact fun v H2 F2 fps2 fp2 R2 st2 rs2 => h v H2 F2 fps2 fp2 R2 (st2.weak (mm mem_left)) (res_weak rs2 (mm mem_left) mem_left)
      | false =>
        refine tE_later (mv1 := mvc) (F := F) (H := H) (s := s) (fps := fps) R' st ?_
        cases ea : fb s' with
        | exc x s' => rw [ea] at h; exact h
        | bad => rw [ea] at h; exact h
        | ok d2 s2 =>
          rw [ea] at h
          exact fun v H2 F2 fps2 fp2 R2 st2 rs2 => h v H2 F2 fps2 fp2 R2 (st2.weak (mm mem_right)) (res_weak rs2 (mm mem_right) mem_right)
/-! ### a o b p c -/
def fChain (g g' : D → D → Option D) (fa fb fc : Env → R D) : Env → R D := fun s => (fa s).bind fun x s => (fb s).bind fun y s => if x.own || y.own then .bad else (R.of (g x y) s).bind fun z s => match asB z with
    | some true => (fc s).bind fun w s => R.of (g' y w) s
    | some false => .ok (.bl false) s
    | none => .bad
theorem tE_chain {K : Kw} {mva vwa mvb vwb mvc vwc : List Nat} {fa fb fc : Env → R D} {g g' : D → D → Option D} (hg : ∀ x y z, g x y = some z → ∃ b, z = .bl b) {σ : L2.St} {H : Hp} {Q : VK} (h : tE K (mva ++ mvb ++ mvc) [] (fChain g g' fa fb fc) σ H Q) :
    tChain (rO K g false) (rO K g' false) (tE K mva vwa fa) (tE K mvb vwb fb) (tE K mvc vwc fc) σ H Q := by
  obtain ⟨F, s, fps, R, h⟩ := h
  refine ⟨F, s, fps, R, ?_⟩
  try dsimp only [fChain] at h
  cases ea : fa s with
  | exc x s' => rw [ea] at h; exact h
  | bad => rw [ea] at h; exact h
  | ok d1 s1 =>
    rw [ea] at h
    simp only [bind_ok] at h
    refine fun x H1 F1 fps1 fp1 R1 st1 rs1 => ⟨F1, s1, fps1, R1, ?_⟩
    cases eb : fb s1 with
    | exc x s' => rw [eb] at h; exact h
    | bad => rw [eb] at h; exact h
    | ok d2 s2 =>
      rw [eb] at h
      simp only [bind_ok] at h
      refine fun y H2 F2 fps2 fp2 R2 st2 rs2 => ?_
      by_cases ho : (d1.own || d2.own) = true
      · rw [if_pos ho] at h; exact h.elim
      · rw [if_neg ho] at h
        simp only [Bool.or_eq_true, not_or, Bool.not_eq_true] at ho
        have rs1' := rs1.on R1 st2 (.inr ho.1)
        cases eg : g d1 d2 with
        | none => rw [eg] at h; exact h.elim
        | some z =>
          rw [eg] at h
          obtain ⟨b, rfl⟩ := hg _ _ _ eg
          simp only [of_some, bind_ok, asB] at h
          refine ⟨F2, d1, fp1, d2, fp2, .bl b, R2.sub, rs1'.rep, rs2.rep, eg, fun v H3 F3 fp x3 r3 k3 => ?_⟩
          obtain ⟨rfl, _⟩ := rep_bl r3
          have R3 := R2.ext x3
          have st3 : Stp (mva ++ mvb) F H s fps F3 H3 s2 fps2 := by
            have q := (st1.trans st2).trans (x3.stp (mv := []) (s := s2) (fps := fps2))
            rw [List.append_nil] at q
            exact q
          refine ⟨b, rfl, ?_⟩
          cases b with
          | false => exact h _ H3 F3 fps2 [] R3 (st3.weak mem_left) ⟨.bl _, fun a ha => nomatch ha⟩
          | true =>
            refine ⟨F3, s2, fps2, R3, ?_⟩
            cases ec : fc s2 with
            | exc x s' => rw [ec] at h; exact h
            | bad => rw [ec] at h; exact h
            | ok d3 s3 =>
              rw [ec] at h
              simp only [bind_ok] at h
              refine fun w H4 F4 fps4 fp4 R4 st4 rs4 => ?_
              cases eg' : g' d2 d3 with
              | none => rw [eg'] at h; exact h.elim
              | some d =>
                rw [eg'] at h
                simp only [of_some] at h
                have r2 : Rep K F4 H4 y d2 [] := ((fp_nil rs2.rep ho.2).ext x3).still st4.f
                exact ⟨F4, d2, [], d3, fp4, d, R4.sub, r2, rs4.rep, eg', give_res (vf := false) (vwa := []) R4 (st3.trans st4) ⟨r2, fun a ha => nomatch ha⟩ h⟩
theorem se_chain {op op' : CmpOp} {a b c : Expr} {mva vwa mvb vwb mvc vwc : List Nat} {fa fb fc : Env → R D} {g g' : D → D → Option D} (hg : ∀ x y z, g x y = some z → ∃ b, z = .bl b) (ho : OpR X (compareOp op) (rO X.kw g false)) (ho' : OpR X (compareOp op') (rO X.kw g' false))
    (ha : PE X a (tE X.kw mva vwa fa)) (hb : PE X b (tE X.kw mvb vwb fb)) (hc : PE X c (tE X.kw mvc vwc fc)) (hm : lastMarks [op, op'] [b, c] = false) : PE X (.Compare a [op, op'] [b, c] pos) (tE X.kw (mva ++ mvb ++ mvc) [] (fChain g g' fa fb fc)) :=
  pe_imp (pe_chain ho ho' ha hb hc hm) fun σ H Q h => tE_chain hg h
theorem st_chain {op op' : CmpOp} {a b c : Expr} {mva vwa mvb vwb mvc vwc : List Nat} {fa fb fc : Env → R D} {g g' : D → D → Option D} (hg : ∀ x y z, g x y = some z → ∃ b, z = .bl b) (ho : OpR X (compareOp op) (rO X.kw g false)) (ho' : OpR X (compareOp op') (rO X.kw g' false))
    (ha : PE X a (tE X.kw mva vwa fa)) (hb : PE X b (tE X.kw mvb vwb fb)) (hc : PE X c (tE X.kw mvc vwc fc)) (hm : lastMarks [op, op'] [b, c] = false) : PT X (.Compare a [op, op'] [b, c] pos) (tT X.kw (mva ++ mvb ++ mvc) (fChain g g' fa fb fc)) :=
  pt_of (vw := []) (t := tChain _ _ _ _ _) (pt_chain ho ho' ha hb hc hm) fun σ H Q h => tE_chain hg h
theorem st_cmp {op : CmpOp} {a b : Expr} {mva vwa mvb vwb : List Nat} {fa fb : Env → R D} {k : Bool} {g : D → D → Option D} (hk : k = true ∨ disj vwa mvb = true) (ho : OpR X (compareOp op) (rO X.kw g false)) (ha : PE X a (tE X.kw mva vwa fa)) (hb : PE X b (tE X.kw mvb vwb fb))
    (hm : behindInMarks op b = false) : PT X (.Compare a [op] [b] pos) (tT X.kw (mva ++ mvb) fun s => (fa s).bind fun x s => (fb s).bind fun y s => if k && x.own then .bad else R.of (g x y) s) :=
  pt_of (vw := []) (t := tOp _ _ _) (pt_cmpR ho ha hb hm) fun σ H Q h => tE_two (vf := false) hk h
theorem se_cmp {op : CmpOp} {a b : Expr} {mva vwa mvb vwb : List Nat} {fa fb : Env → R D} {k : Bool} {g : D → D → Option D} (hk : k = true ∨ disj vwa mvb = true) (ho : OpR X (compareOp op) (rO X.kw g false)) (ha : PE X a (tE X.kw mva vwa fa)) (hb : PE X b (tE X.kw mvb vwb fb))
    (hm : behindInMarks op b = false) : PE X (.Compare a [op] [b] pos) (tE X.kw (mva ++ mvb) [] fun s => (fa s).bind fun x s => (fb s).bind fun y s => if k && x.own then .bad else R.of (g x y) s) := se_op hk (pe_cmpR ho ha hb hm)
end
end Z

set_option Elab.async false
set_option linter.all false
set_option maxRecDepth 100000
namespace Z
open PySem PySem.Spec PyProof.Rows L2

/-! ### calls of defs -/
/-- the arguments when they are there: as says which are handed in and out -/
structure Args (K : Kw) (F H : Hp) (σ : L2.St) (fps : Fps) (as : List (Option Nat)) (vs : List V) (ds : List D) (fpa : Fps) : Prop where
  lv : vs.length = as.length
  ld : ds.length = as.length
  val : ∀ (j : Nat) (d : D), as[j]? = some none → ds[j]? = some d → ∃ v, vs[j]? = some v ∧ Rep K F H v d (fpa j)
  io : ∀ (j i : Nat), as[j]? = some (some i) → ∃ v, vs[j]? = some v ∧ σ[i]? = some (some v)
  dis : ∀ i j, i ≠ j → ∀ a ∈ fpa i, a ∉ fpa j
  nil : ∀ (j : Nat), as[j]? ≠ some none → fpa j = []
def fresh (mv : List Nat) (H : Hp) (fps fps' : Fps) (a : Addr) : Prop := (∀ j, a ∉ fps' j) ∧ (H a = none ∨ ∃ j ∈ mv, a ∈ fps j)
def tK (K : Kw) (as : List (Option Nat)) (mv : List Nat) (f : Env → R (List D)) : TA := fun σ H Q => ∃ F s fps, Rel K F H σ s fps ∧ match f s with
  | .ok ds s' => ∀ vs H' F' fps' fpa, Rel K F' H' σ s' fps' → Stp mv F H s fps F' H' s' fps' → Args K F' H' σ fps' as vs ds fpa → (∀ j, ∀ a ∈ fpa j, fresh mv H fps fps' a) → Q vs H'
  | _ => False
section
variable {X : Cx} {pos : Pos}
theorem sk_nil : PA X [] (tK X.kw [] [] fun s => .ok [] s) := pa_imp pa_nil fun σ H Q h => by
  obtain ⟨F, s, fps, R, h⟩ := h
  exact h [] H F fps (fun _ => []) R .refl ⟨rfl, rfl, fun j d e _ => by simp at e, fun j i e => by simp at e, fun i j _ a z => (nomatch z), fun _ _ => rfl⟩ fun j a z => nomatch z
theorem sk_val {e : Expr} {es : List Expr} {as : List (Option Nat)} {mva mvb : List Nat} {fa : Env → R D} {fb : Env → R (List D)} (ha : PE X e (tE X.kw mva [] fa)) (hb : PA X es (tK X.kw as mvb fb)) (hs : starEach (e :: es) X.env = (false, eval e X.env) :: starEach es X.env) :
    PA X (e :: es) (tK X.kw (none :: as) (mva ++ mvb) fun s => (fa s).bind fun d s => (fb s).bind fun ds s => .ok (d :: ds) s) := pa_imp (pa_cons ha hb hs) fun σ H Q h => by
  obtain ⟨F, s, fps, R, h⟩ := h
  refine ⟨F, s, fps, R, ?_⟩
  try dsimp only at h
  cases ea : fa s with
  | exc x s' => rw [ea] at h; exact h
  | bad => rw [ea] at h; exact h
  | ok d s1 =>
    rw [ea] at h
    simp only [bind_ok] at h
    refine fun x H1 F1 fps1 fp1 R1 st1 rs1 => ⟨F1, s1, fps1, R1, ?_⟩
    cases eb : fb s1 with
    | exc x s' => rw [eb] at h; exact h
    | bad => rw [eb] at h; exact h
    | ok ds s2 =>
      rw [eb] at h
      simp only [bind_ok] at h
      refine fun ys H2 F2 fps2 fpa R2 st2 A hf => ?_
      have r := rs1.on R1 st2 (.inl disj_nil)
      have frs : ∀ a ∈ fp1, fresh (mva ++ mvb) H fps fps2 a := fun a ha => by
        rcases r.fr a ha with ⟨j, hj, _⟩ | q
        · cases hj
        · exact q
      have apart : ∀ a ∈ fp1, ∀ j, a ∉ fpa j := fun a ha j z => by
        obtain ⟨_, o, ho, _⟩ := rs1.rep.own a ha
        rcases (hf j a z).2 with q | ⟨i, _, q⟩
        · rw [ho] at q; cases q
        · rcases rs1.fr a ha with ⟨j, hj, _⟩ | ⟨y, _⟩
          · cases hj
          · exact y i q
      refine h (x :: ys) H2 F2 fps2 (fun j => match j with | 0 => fp1 | j + 1 => fpa j) R2 (st1.trans st2) ⟨by simp [A.lv], by simp [A.ld], fun j d' e1 e2 => ?_, fun j i e1 => ?_, fun i j hij a ha => ?_, fun j hj => ?_⟩ fun j a ha => ?_
      · cases j with
        | zero => simp at e2; subst e2; exact ⟨x, rfl, r.rep⟩
        | succ j => exact A.val j d' (by simpa using e1) (by simpa using e2)
      · cases j with
        | zero => simp at e1
        | succ j => exact A.io j i (by simpa using e1)
      · cases i with
        | zero =>
          cases j with
          | zero => exact absurd rfl hij
          | succ j => exact apart a ha j
        | succ i =>
          cases j with
          | zero => exact fun z => apart a z i ha
          | succ j => exact A.dis i j (fun e => hij (by rw [e])) a ha
      · cases j with
        | zero => simp at hj
        | succ j => exact A.nil j (by simpa using hj)
      · cases j with
        | zero => exact frs a ha
        | succ j =>
          refine ⟨(hf j a ha).1, ?_⟩
          rcases (hf j a ha).2 with q | ⟨i, hi, q⟩
          · exact .inl (st1.d a q)
          · rcases st1.back q with y | ⟨k, hk, y⟩ | ⟨_, y⟩
            · exact .inl y
            · exact .inr ⟨k, List.mem_append_left _ hk, y⟩
            · exact .inr ⟨i, List.mem_append_right _ hi, y⟩
theorem sk_io {i : Nat} {x : Str} {p : Pos} {es : List Expr} {as : List (Option Nat)} {mvb : List Nat} {fb : Env → R (List D)} (ha : PE X (.Name x p) (tVar i)) (hb : PA X es (tK X.kw as mvb fb)) (hs : starEach (.Name x p :: es) X.env = (false, eval (.Name x p) X.env) :: starEach es X.env) :
    PA X (.Name x p :: es) (tK X.kw (some i :: as) mvb fun s => (R.of (get s i) s).bind fun d s => (fb s).bind fun ds s => .ok (d :: ds) s) := pa_imp (pa_cons ha hb hs) fun σ H Q h => by
  obtain ⟨F, s, fps, R, h⟩ := h
  try dsimp only at h
  cases ea : get s i with
  | none => rw [ea] at h; exact h.elim
  | some d =>
    rw [ea] at h
    simp only [of_some, bind_ok] at h
    obtain ⟨v, e1, _⟩ := R.rep i d ea
    refine ⟨v, e1, F, s, fps, R, ?_⟩
    cases eb : fb s with
    | exc x s' => rw [eb] at h; exact h
    | bad => rw [eb] at h; exact h
    | ok ds s2 =>
      rw [eb] at h
      simp only [bind_ok] at h
      refine fun ys H2 F2 fps2 fpa R2 st2 A hf => ?_
      refine h (v :: ys) H2 F2 fps2 (fun j => match j with | 0 => [] | j + 1 => fpa j) R2 st2 ⟨by simp [A.lv], by simp [A.ld], fun j d' e1 e2 => ?_, fun j k e2 => ?_, fun i j hij a ha => ?_, fun j hj => ?_⟩ fun j a ha => ?_
      · cases j with
        | zero => simp at e1
        | succ j => exact A.val j d' (by simpa using e1) (by simpa using e2)
      · cases j with
        | zero => simp at e2; subst e2; exact ⟨v, rfl, e1⟩
        | succ j => exact A.io j k (by simpa using e2)
      · cases i with
        | zero => cases ha
        | succ i =>
          cases j with
          | zero => exact fun z => nomatch z
          | succ j => exact A.dis i j (fun e => hij (by rw [e])) a ha
      · cases j with
        | zero => rfl
        | succ j => exact A.nil j (by simpa using hj)
      · cases j with
        | zero => cases ha
        | succ j => exact hf j a ha
end

/-! fill and back -/
theorem fill_spec : ∀ {as : List (Option Nat)} {ds ds2 : List D} {s s2 : Env}, fill as ds s = some (ds2, s2) → ds2.length = as.length ∧ s2.length = s.length ∧
    (∀ j : Nat, as[j]? = some none → ds2[j]? = ds[j]?) ∧ (∀ j i : Nat, as[j]? = some (some i) → ds2[j]? = get s i ∧ get s2 i = none) ∧ (∀ i, some i ∉ as → get s2 i = get s i) ∧ (∀ i j k : Nat, as[j]? = some (some i) → as[k]? = some (some i) → j = k)
  | [], [], ds2, s, s2, h => by
    simp only [fill, Option.some.injEq, Prod.mk.injEq] at h
    obtain ⟨rfl, rfl⟩ := h
    exact ⟨rfl, rfl, fun j e => by simp at e, fun j i e => by simp at e, fun i _ => rfl, fun i j k e => by simp at e⟩
  | [], _ :: _, _, _, _, h => by simp [fill] at h
  | none :: as, [], _, _, _, h => by simp [fill] at h
  | some _ :: as, [], _, _, _, h => by simp [fill] at h
  | none :: as, d :: ds, ds2, s, s2, h => by
    simp only [fill, Option.map_eq_some_iff] at h
    obtain ⟨⟨r, s3⟩, h1, h2⟩ := h
    simp only [Prod.mk.injEq] at h2
    obtain ⟨rfl, rfl⟩ := h2
    obtain ⟨l1, l2, a, b, c, u⟩ := fill_spec h1
    refine ⟨by simp [l1], l2, fun j e => ?_, fun j i e => ?_, fun i hi => c i fun z => hi (List.mem_cons_of_mem _ z), fun i j k e1 e2 => ?_⟩
    · cases j with
      | zero => rfl
      | succ j => simpa using a j (by simpa using e)
    · cases j with
      | zero => simp at e
      | succ j => simpa using b j i (by simpa using e)
    · cases j with
      | zero => simp at e1
      | succ j =>
        cases k with
        | zero => simp at e2
        | succ k => rw [u i j k (by simpa using e1) (by simpa using e2)]
  | some i0 :: as, d :: ds, ds2, s, s2, h => by
    simp only [fill, Option.bind_eq_some_iff, Option.map_eq_some_iff] at h
    obtain ⟨d0, h0, ⟨r, s3⟩, h1, h2⟩ := h
    simp only [Prod.mk.injEq] at h2
    obtain ⟨rfl, rfl⟩ := h2
    obtain ⟨l1, l2, a, b, c, u⟩ := fill_spec h1
    have hl := get_lt h0
    have hno : some i0 ∉ as := fun z => by
      obtain ⟨j, hj⟩ := List.getElem?_of_mem z
      have q := (b j i0 hj).1
      rw [get_set hl, if_pos rfl] at q
      have hj2 : j < as.length := (List.getElem?_eq_some_iff.mp hj).1
      rw [List.getElem?_eq_getElem (by omega)] at q
      cases q
    refine ⟨by simp [l1], by rw [l2, List.length_set], fun j e => ?_, fun j i e => ?_, fun i hi => ?_, fun i j k e1 e2 => ?_⟩
    · cases j with
      | zero => simp at e
      | succ j => simpa using a j (by simpa using e)
    · cases j with
      | zero =>
        simp at e
        subst e
        exact ⟨by simpa using h0.symm, by rw [c i0 hno, get_set hl, if_pos rfl]⟩
      | succ j =>
        have q := b j i (by simpa using e)
        have hne : i ≠ i0 := fun z => by
          subst z
          exact hno (List.mem_of_getElem? (show as[j]? = some (some i) by simpa using e))
        rw [get_set hl, if_neg hne] at q
        simpa using q
    · have hne : i ≠ i0 := fun z => hi (by rw [z]; exact List.mem_cons_self)
      rw [c i fun z => hi (List.mem_cons_of_mem _ z), get_set hl, if_neg hne]
    · cases j with
      | zero =>
        simp at e1
        subst e1
        cases k with
        | zero => rfl
        | succ k => exact absurd (List.mem_of_getElem? (show as[k]? = some (some i0) by simpa using e2)) hno
      | succ j =>
        cases k with
        | zero =>
          simp at e2
          subst e2
          exact absurd (List.mem_of_getElem? (show as[j]? = some (some i0) by simpa using e1)) hno
        | succ k => rw [u i j k (by simpa using e1) (by simpa using e2)]
theorem back_spec : ∀ {as : List (Option Nat)} {io s : Env}, io.length = as.length → (∀ i, some i ∈ as → i < s.length) → (∀ i j k : Nat, as[j]? = some (some i) → as[k]? = some (some i) → j = k) →
    (back as io s).length = s.length ∧ (∀ j i : Nat, as[j]? = some (some i) → get (back as io s) i = get io j) ∧ (∀ i, some i ∉ as → get (back as io s) i = get s i)
  | [], io, s, h, _, _ => by simp [back]
  | none :: as, [], s, h, _, _ => by simp at h
  | some i0 :: as, [], s, h, _, _ => by simp at h
  | none :: as, o :: io, s, h, hl, u => by
    obtain ⟨a, b, c⟩ := back_spec (as := as) (io := io) (s := s) (by simpa using h) (fun i z => hl i (List.mem_cons_of_mem _ z)) fun i j k e1 e2 => by
      have := u i (j + 1) (k + 1) (by simpa using e1) (by simpa using e2)
      omega
    refine ⟨a, fun j i e => ?_, fun i hi => c i fun z => hi (List.mem_cons_of_mem _ z)⟩
    cases j with
    | zero => simp at e
    | succ j => 
      have q := b j i (by simpa using e)
      simpa [back, get] using q
  | some i0 :: as, o :: io, s, h, hl, u => by
    obtain ⟨a, b, c⟩ := back_spec (as := as) (io := io) (s := s) (by simpa using h) (fun i z => hl i (List.mem_cons_of_mem _ z)) fun i j k e1 e2 => by
      have := u i (j + 1) (k + 1) (by simpa using e1) (by simpa using e2)
      omega
    have hi0 : i0 < (back as io s).length := by rw [a]; exact hl i0 List.mem_cons_self
    refine ⟨by show ((back as io s).set i0 o).length = _; rw [List.length_set]; exact a, fun j i e => ?_, fun i hi => ?_⟩
    · show get ((back as io s).set i0 o) i = _
      rw [get_set hi0]
      cases j with
      | zero =>
        simp at e
        subst e
        simp [get]
      | succ j =>
        have hne : i ≠ i0 := fun z => by
          subst z
          have := u i 0 (j + 1) rfl (by simpa using e)
          omega
        rw [if_neg hne, b j i (by simpa using e)]
        simp [get]
    · show get ((back as io s).set i0 o) i = _
      have hne : i ≠ i0 := fun z => hi (by rw [z]; exact List.mem_cons_self)
      rw [get_set hi0, if_neg hne]
      exact c i fun z => hi (List.mem_cons_of_mem _ z)
end Z

set_option Elab.async false
set_option linter.all false
set_option maxRecDepth 100000
namespace Z
open PySem PySem.Spec PyProof.Rows L2

/-- what a def promises: it does what g says -/
def spF (K : Kw) (n : Nat) (g : List D → CR) : Sp := fun vs H Q _ => vs.length = n ∧ ∃ F ds fps, Rel K F H (vs.map some) (ds.map some) fps ∧ match g ds with
  | .ok d io => ∀ v H' F' fps' fp, Rel K F' H' (vs.map some) io fps' → Stp (List.range n) F H (ds.map some) fps F' H' io fps' → Res K (List.range n) [] H fps F' H' fps' v d fp → Q v H'
  | _ => False
def fCall (as : List (Option Nat)) (g : List D → CR) (f : Env → R (List D)) : Env → R D := fun s => (f s).bind fun ds s => match fill as ds s with
    | none => .bad
    | some (ds, s) => match g ds with
      | .ok d io => .ok d (back as io s)
      | .exc x io => .exc x (back as io s)
      | .bad => .bad
theorem get_map {ds : List D} {j : Nat} {d : D} (h : get (ds.map some) j = some d) : ds[j]? = some d := by
  unfold get at h
  rw [List.getD_eq_getElem?_getD, List.getElem?_map] at h
  cases e : ds[j]? with
  | none => rw [e] at h; cases h
  | some x => rw [e] at h; exact h
theorem get_map_none {ds : List D} {j : Nat} (h : get (ds.map some) j = none) : ds[j]? = none := by
  unfold get at h
  rw [List.getD_eq_getElem?_getD, List.getElem?_map] at h
  cases e : ds[j]? with
  | none => rfl
  | some x => rw [e] at h; cases h
theorem idx_some {as : List (Option Nat)} {i j : Nat} (h : as.idxOf? (some i) = some j) : as[j]? = some (some i) := by
  rw [List.idxOf?_eq_some_iff] at h
  obtain ⟨hj, h1, _⟩ := h
  rw [List.getElem?_eq_getElem hj, h1]
theorem idx_none {as : List (Option Nat)} {i : Nat} (h : as.idxOf? (some i) = none) : some i ∉ as := List.idxOf?_eq_none_iff.mp h
theorem idx_mem {as : List (Option Nat)} {i j : Nat} (h : as[j]? = some (some i)) : as.idxOf? (some i) ≠ none := fun z => idx_none z (List.mem_of_getElem? h)
theorem tK_call {K : Kw} {as : List (Option Nat)} {mv : List Nat} {f : Env → R (List D)} {g : List D → CR} {σ : L2.St} {H : Hp} {Q : VK} {E : XK} (h : tE K (mv ++ as.filterMap id) [] (fCall as g f) σ H Q) :
    tCall (spF K as.length g) [] E (tK K as mv f) σ H Q := by
  obtain ⟨F, s, fps, R, h⟩ := h
  refine ⟨F, s, fps, R, ?_⟩
  try dsimp only [fCall] at h
  cases ef : f s with
  | exc x s' => rw [ef] at h; exact h
  | bad => rw [ef] at h; exact h
  | ok ds s1 =>
    rw [ef] at h
    simp only [bind_ok] at h
    refine fun vs H1 F1 fps1 fpa R1 st1 A hf => ?_
    cases ei : fill as ds s1 with
    | none => rw [ei] at h; exact h.elim
    | some p =>
      obtain ⟨ds2, s2⟩ := p
      rw [ei] at h
      try dsimp only at h
      obtain ⟨l1, l2, fa, fb, fc, fu⟩ := fill_spec ei
      rw [List.append_nil]
      refine ⟨A.lv, F1, ds2, fun j => match as[j]? with | some (some i) => fps1 i | _ => fpa j, ?_, ?_⟩
      · refine ⟨R1.sub, by rw [List.length_map, List.length_map, l1, A.lv], fun j d e => ?_, fun j e => ?_, fun i j hij a ha => ?_⟩
        · have e1 := get_map e
          have hj : j < as.length := by rw [← l1]; exact (List.getElem?_eq_some_iff.mp e1).1
          cases ea : as[j]? with
          | none => rw [List.getElem?_eq_none_iff] at ea; omega
          | some w =>
            cases w with
            | none =>
              rw [fa j ea] at e1
              obtain ⟨v, h1, h2⟩ := A.val j d ea e1
              exact ⟨v, by rw [List.getElem?_map, h1]; rfl, h2⟩
            | some i =>
              obtain ⟨v, h1, h2⟩ := A.io j i ea
              rw [(fb j i ea).1] at e1
              obtain ⟨v', h3, h4⟩ := R1.rep i d e1
              rw [h2] at h3
              cases h3
              exact ⟨v, by rw [List.getElem?_map, h1]; rfl, h4⟩
        · have e1 := get_map_none e
          have ea : as[j]? = none := by
            rw [List.getElem?_eq_none_iff] at e1 ⊢
            omega
          simp only [ea]
          exact A.nil j (by rw [ea]; exact fun z => nomatch z)
        · try dsimp only at ha ⊢
          cases ei : as[i]? with
          | none =>
            rw [ei] at ha
            try dsimp only at ha
            rw [A.nil i (by rw [ei]; exact fun z => nomatch z)] at ha
            cases ha
          | some w =>
            rw [ei] at ha
            cases w with
            | none =>
              try dsimp only at ha
              cases ej : as[j]? with
              | none => exact A.dis i j hij a ha
              | some w =>
                cases w with
                | none => exact A.dis i j hij a ha
                | some k => exact (hf i a ha).1 k
            | some k =>
              try dsimp only at ha
              cases ej : as[j]? with
              | none => exact fun z => (hf j a z).1 k ha
              | some w =>
                cases w with
                | none => exact fun z => (hf j a z).1 k ha
                | some k2 =>
                  refine R1.dis k k2 (fun e => ?_) a ha
                  subst e
                  exact hij (fu k i j ei ej)
      · cases eg : g ds2 with
        | exc x io => rw [eg] at h; exact h
        | bad => rw [eg] at h; exact h
        | ok d io =>
          rw [eg] at h
          try dsimp only at h
          have key : ∀ (a : Addr) (j : Nat), a ∈ (match as[j]? with | some (some i) => fps1 i | _ => fpa j) → H a = none ∨ ∃ i ∈ mv ++ as.filterMap id, a ∈ fps i := fun a j ha => by
            have val : a ∈ fpa j → H a = none ∨ ∃ i ∈ mv ++ as.filterMap id, a ∈ fps i := fun z => by
              rcases (hf j a z).2 with q | ⟨i, hi, q⟩
              · exact .inl q
              · exact .inr ⟨i, List.mem_append_left _ hi, q⟩
            cases ea : as[j]? with
            | none => rw [ea] at ha; exact val ha
            | some w =>
              rw [ea] at ha
              cases w with
              | none => exact val ha
              | some i =>
                rcases st1.back ha with q | ⟨k, hk, q⟩ | ⟨_, q⟩
                · exact .inl q
                · exact .inr ⟨k, List.mem_append_left _ hk, q⟩
                · exact .inr ⟨i, List.mem_append_right _ (List.mem_filterMap.mpr ⟨some i, List.mem_of_getElem? ea, rfl⟩), q⟩
          have apart : ∀ (i : Nat), some i ∉ as → ∀ a ∈ fps1 i, ∀ j : Nat, a ∉ (match as[j]? with | some (some i) => fps1 i | _ => fpa j) := fun i hi a ha j z => by
            cases ea : as[j]? with
            | none => rw [ea] at z; exact (hf j a z).1 i ha
            | some w =>
              rw [ea] at z
              cases w with
              | none => exact (hf j a z).1 i ha
              | some k => exact R1.dis i k (fun e => hi (by rw [e]; exact List.mem_of_getElem? ea)) a ha z
          refine fun v H' F' fps' fp R' st' rs => ?_
          have lio : io.length = as.length := by rw [R'.len, List.length_map, A.lv]
          obtain ⟨b1, b2, b3⟩ := back_spec (s := s2) lio (fun i hi => by
            obtain ⟨j, hj⟩ := List.getElem?_of_mem hi
            have q := (fb j i hj).1
            have hj2 : j < ds2.length := by rw [l1]; exact (List.getElem?_eq_some_iff.mp hj).1
            rw [List.getElem?_eq_getElem hj2] at q
            rw [l2]
            exact get_lt q.symm) fu
          have g3 : ∀ i, some i ∉ as → get (back as io s2) i = get s1 i := fun i hi => (b3 i hi).trans (fc i hi)
          refine h v H' F' (fun i => match as.idxOf? (some i) with | some j => fps' j | none => fps1 i) fp ⟨R'.sub, by rw [b1, l2]; exact R1.len, fun i d' e => ?_, fun i e => ?_, fun i j hij a ha => ?_⟩
            ⟨fun a o e => st'.f a o (st1.f a o e), fun a o e k => ?_, fun a e => ?_, fun j hj a ha => ?_, fun j hj => ?_, fun a e => st1.d a (st'.d a e)⟩ ⟨rs.rep, fun a ha => .inr ?_⟩
          · try dsimp only
            cases ex : as.idxOf? (some i) with
            | some j =>
              have ej := idx_some ex
              rw [b2 j i ej] at e
              obtain ⟨v', h1, h2⟩ := R'.rep j d' e
              obtain ⟨v2, h3, h4⟩ := A.io j i ej
              rw [List.getElem?_map, h3] at h1
              have h1' : v2 = v' := by simpa using h1
              subst h1'
              exact ⟨v2, h4, h2⟩
            | none =>
              have hi := idx_none ex
              rw [g3 i hi] at e
              obtain ⟨v', h1, h2⟩ := R1.rep i d' e
              refine ⟨v', h1, h2.mono st'.f fun a ha => ?_⟩
              obtain ⟨q1, o, q2, _⟩ := h2.own a ha
              refine ⟨fun o e => st'.h a o e fun j _ => apart i hi a ha j, ?_⟩
              cases eF : F' a with
              | none => rfl
              | some u =>
                rcases st'.nf a (by rw [eF]; exact Option.some_ne_none _) with q | q | ⟨j, _, q⟩
                · exact absurd q1 q
                · rw [q2] at q; cases q
                · exact absurd q (apart i hi a ha j)
          · try dsimp only
            cases ex : as.idxOf? (some i) with
            | some j =>
              have ej := idx_some ex
              rw [b2 j i ej] at e
              exact R'.nil j e
            | none =>
              rw [g3 i (idx_none ex)] at e
              exact R1.nil i e
          · try dsimp only at ha ⊢
            have mix : ∀ (i j k : Nat), as[k]? = some (some i) → some j ∉ as → ∀ a, a ∈ fps' k → a ∉ fps1 j := fun i j k ek hj a z y => by
              have hk : k ∈ List.range as.length := List.mem_range.mpr (List.getElem?_eq_some_iff.mp ek).1
              obtain ⟨_, o, q2, _⟩ := R1.there y
              rcases st'.u k hk a z with q | ⟨m, _, q⟩
              · rw [q2] at q; cases q
              · exact apart j hj a y m q
            cases ex : as.idxOf? (some i) with
            | some k =>
              rw [ex] at ha
              cases ey : as.idxOf? (some j) with
              | some k2 =>
                refine R'.dis k k2 (fun e => ?_) a ha
                subst e
                have q := (idx_some ex).symm.trans (idx_some ey)
                simp only [Option.some.injEq] at q
                exact hij q
              | none => exact mix i j k (idx_some ex) (idx_none ey) a ha
            | none =>
              rw [ex] at ha
              cases ey : as.idxOf? (some j) with
              | some k2 => exact fun z => mix j i k2 (idx_some ey) (idx_none ex) a z ha
              | none => exact R1.dis i j hij a ha
          · refine st'.h a o (st1.h a o e fun j hj => k j (List.mem_append_left _ hj)) fun j _ z => ?_
            rcases key a j z with q | ⟨i, hi, q⟩
            · rw [e] at q; cases q
            · exact k i hi q
          · rcases st'.nf a e with q | q | ⟨j, _, q⟩
            · rcases st1.nf a q with q | q | ⟨j, hj, q⟩
              · exact .inl q
              · exact .inr (.inl q)
              · exact .inr (.inr ⟨j, List.mem_append_left _ hj, q⟩)
            · exact .inr (.inl (st1.d a q))
            · exact .inr (key a j q)
          · try dsimp only at ha
            cases ex : as.idxOf? (some j) with
            | some k =>
              rw [ex] at ha
              have hk : k ∈ List.range as.length := List.mem_range.mpr (List.getElem?_eq_some_iff.mp (idx_some ex)).1
              rcases st'.u k hk a ha with q | ⟨m, _, q⟩
              · exact .inl (st1.d a q)
              · exact key a m q
            | none =>
              rw [ex] at ha
              rcases st1.back ha with q | ⟨k, hk, q⟩ | ⟨_, q⟩
              · exact .inl q
              · exact .inr ⟨k, List.mem_append_left _ hk, q⟩
              · exact .inr ⟨j, hj, q⟩
          · have hj1 : some j ∉ as := fun z => hj (List.mem_append_right _ (List.mem_filterMap.mpr ⟨some j, z, rfl⟩))
            have q := st1.o j fun z => hj (List.mem_append_left _ z)
            refine ⟨(g3 j hj1).trans q.1, ?_⟩
            try dsimp only
            cases ex : as.idxOf? (some j) with
            | some k => exact absurd (List.mem_of_getElem? (idx_some ex)) hj1
            | none => exact q.2
          · rcases rs.fr a ha with ⟨j, hj, _⟩ | ⟨q1, q2⟩
            · cases hj
            · refine ⟨fun j z => ?_, ?_⟩
              · try dsimp only at z
                cases ex : as.idxOf? (some j) with
                | some k => rw [ex] at z; exact q1 k z
                | none =>
                  rw [ex] at z
                  obtain ⟨_, o, y2, _⟩ := R1.there z
                  rcases q2 with q2 | ⟨m, _, q2⟩
                  · rw [y2] at q2; cases q2
                  · exact apart j (idx_none ex) a z m q2
              · rcases q2 with q2 | ⟨m, _, q2⟩
                · exact .inl (st1.d a q2)
                · exact key a m q2
end Z

set_option Elab.async false
set_option linter.all false
set_option maxRecDepth 100000
/-! f(q = .., p = ..): two parameters, both by their names, the second first; constants. -/
namespace Z
open PySem PySem.Spec PyProof.Rows L2
/-- how a def binds them -/
def KB (K : PySem.W.Frag) (fd : FuncData) (p q : Str) : Prop := ∀ (s : Shared) (u v : Value), K.In s.heap → BindsTo s fd ⟨[], [(q, u), (p, v)]⟩ [(p, v), (q, u)]
def KBs (K : PySem.W.Frag) (fd : FuncData) (ps : List Str) : Prop := ∀ p q, ps = [p, q] → KB K fd p q
theorem _root_.L2.Fun.kbs {K : PySem.W.Frag} {x qual : Str} {st : Stmt} {f : Addr} {fd : FuncData} {ps : List Str} (F : Fun K x qual st f fd)
    (h : ∀ p q, ps = [p, q] → ∀ (kV doc pm : Value) (an : Option Addr) (cdv ct u v : Value), bindArgs (PySem.W.fnOf x qual (defArgs st) (defBody st) (defScope st) .none kV doc pm an cdv ct) ⟨[], [(q, u), (p, v)]⟩ = pure [(p, v), (q, u)]) : KBs K fd ps := by
  obtain ⟨oc, od, kV, doc, pm, an, cdv, ct, osl, rfl, lk, hcd⟩ := F.ex
  exact fun p q e s u v _ => .of_eq (h p q e kV doc pm an cdv ct u v)
theorem kb_kbn {K : PySem.W.Frag} {fd : FuncData} {p q : Str} (h : KB K fd p q) : KBn K fd [p, q] 0 [q, p] (fun us ws => us ++ ws.reverse) (fun vs zs => vs ++ zs.reverse) := by
  refine ⟨fun s us ws X l1 l2 => ?_, fun r1 r2 => r1.append r2.reverse⟩
  match us, l1, ws, l2 with
  | [], _, [u, v], _ => exact h s u v X
section
variable {X : Cx} {k : Nat} {f : Addr} {fd : FuncData} {p q x : Str} {sp : Sp} {e1 e2 : Expr} {k1 k2 xp pos : Pos} {t1 t2 : TE}
theorem pe_kw2 (F : FnOk X.prog X.w X.K X.mg X.base CX0 k f fd [p, q] sp) (hr : Room k X.A) (hg : Gl X x) (hm : X.mg x = some (.ref f)) (hk : PySem.W.keepIn X.K (.ref f) = true) (hb : KB X.K fd p q) {E : XK} (hx : Passes CX0 X E) (h1 : PE X e1 t1) (h2 : PE X e2 t2) (hdb : (x == ("__debug__" : Str)) = false) :
    PE X (.Call (.Name x xp) [] [⟨some q, e1, k1⟩, ⟨some p, e2, k2⟩] pos) (fun σ H Q => tCons t1 (tCons t2 tNil) σ H fun zs H2 => zs.length = 2 ∧ sp zs.reverse H2 Q E) := by
  have hkw : PK X [⟨some q, e1, k1⟩, ⟨some p, e2, k2⟩] (tCons t1 (tCons t2 tNil)) := pk_cons h1 (pk_cons h2 pk_nil)
  refine ⟨fun pp s1 τ G Q J h => ?_⟩
  refine wpAny_Call_Name_kw (ld_glob J hg hm ?_ hdb)
  refine PySem.W.callWith_KW0 (h₀ := X.base) J.ok.mod.kin hk (by rfl) ?_ (by rfl)
  refine thn (hkw.run pos pp s1 τ G _ J h) fun ws s2 ⟨zs, G2, J2, rz, l2, q2⟩ => ⟨J2.kIn, ?_⟩
  exact run_fnN (us := []) (vs := []) F hr (kb_kbn hb) hx J2 .nil rz rfl l2 q2
end
theorem tE_kw2 {K : Kw} {g : List D → CR} {σ : L2.St} {H : Hp} {Q : VK} {E : XK} {d1 d2 : D} (o1 : d1.own = false) (o2 : d2.own = false) (h : tE K [] [] (fCall [none, none] g fun s => .ok [d2, d1] s) σ H Q) :
    tCons (tE K [] [] fun s => .ok d1 s) (tCons (tE K [] [] fun s => .ok d2 s) tNil) σ H fun zs H2 => zs.length = 2 ∧ spF K 2 g zs.reverse H2 Q E := by
  obtain ⟨F, s, fps, R, q⟩ := tK_call (E := E) (mv := []) h
  try dsimp only at q
  refine ⟨F, s, fps, R, fun x H1 F1 fps1 fp1 R1 st1 rs1 => ⟨F1, s, fps1, R1, fun y H2 F2 fps2 fp2 R2 st2 rs2 => ⟨rfl, ?_⟩⟩⟩
  have r1 := rs1.on R1 st2 (.inl disj_nil)
  have st := st1.trans st2
  have := q [y, x] H2 F2 fps2 (fun _ => []) R2 st ⟨rfl, rfl, fun j d e1 e2 => ?_, fun j i e => ?_, fun i j _ a z => (nomatch z), fun _ _ => rfl⟩ fun j a z => nomatch z
  · exact this
  · match j, e2 with
    | 0, e2 =>
      simp only [List.getElem?_cons_zero, Option.some.injEq] at e2
      subst e2
      exact ⟨y, rfl, fp_nil rs2.rep o2⟩
    | 1, e2 =>
      have e2 : d1 = d := by simpa using e2
      subst e2
      exact ⟨x, rfl, fp_nil r1.rep o1⟩
    | j + 2, e2 => simp at e2
  · match j, e with
    | 0, e => simp at e
    | 1, e => simp at e
    | j + 2, e => simp at e
end Z

set_option Elab.async false
set_option linter.all false
set_option maxRecDepth 100000
namespace Z
open PySem PySem.Spec PyProof.Rows L2

/-- all slots but these are what they were -/
def Kp (as : List Nat) (σ σ' : L2.St) : Prop := ∀ i : Nat, i ∉ as → σ'[i]? = σ[i]?
theorem Kp.refl {as : List Nat} {σ : L2.St} : Kp as σ σ := fun _ _ => rfl
theorem Kp.trans {as bs : List Nat} {σ σ1 σ2 : L2.St} (a : Kp as σ σ1) (b : Kp bs σ1 σ2) : Kp (as ++ bs) σ σ2 := fun i h => (b i fun z => h (List.mem_append_right _ z)).trans (a i fun z => h (List.mem_append_left _ z))
theorem Kp.weak {as bs : List Nat} {σ σ1 : L2.St} (a : Kp as σ σ1) (m : ∀ j ∈ as, j ∈ bs) : Kp bs σ σ1 := fun i h => a i fun z => h (m i z)
/-- what is wanted of an outcome, told from the beginning -/
def Ends' (K : Kw) (mv as : List Nat) (σ : L2.St) (F H : Hp) (s : Env) (fps : Fps) (D : Ends) : O → Prop
  | .nxt s' => ∀ σ' H' F' fps', Rel K F' H' σ' s' fps' → Stp mv F H s fps F' H' s' fps' → Kp as σ σ' → D.nx σ' H'
  | .cnt s' => ∀ σ' H' F' fps', Rel K F' H' σ' s' fps' → Stp mv F H s fps F' H' s' fps' → Kp as σ σ' → D.ct σ' H'
  | .brk s' => ∀ σ' H' F' fps', Rel K F' H' σ' s' fps' → Stp mv F H s fps F' H' s' fps' → Kp as σ σ' → D.bk σ' H'
  | .ret d s' => ∀ v σ' H' F' fps' fp, Rel K F' H' σ' s' fps' → Stp mv F H s fps F' H' s' fps' → Kp as σ σ' → Res K mv [] H fps F' H' fps' v d fp → D.rt v H'
  | _ => False
def tS (K : Kw) (mv as : List Nat) (g : Env → O) : TS := fun D σ H => ∃ F s fps, Rel K F H σ s fps ∧ Ends' K mv as σ F H s fps D (g s)
theorem ps_imp {X : Cx} {st : Stmt} {t t' : TS} (h : PS X st t) (i : ∀ D σ H, t' D σ H → t D σ H) : PS X st t' := ⟨fun pins s σ H D I q => h.run pins s σ H D I (i _ _ _ q)⟩
theorem pss_imp {X : Cx} {st : List Stmt} {t t' : TS} (h : PSs X st t) (i : ∀ D σ H, t' D σ H → t D σ H) : PSs X st t' := ⟨fun pins s σ H D I q => h.run pins s σ H D I (i _ _ _ q)⟩
section
variable {K : Kw} {mv mv1 mv2 as as1 as2 vw : List Nat} {σ σ1 : L2.St} {F H F1 H1 : Hp} {s s1 : Env} {fps fps1 : Fps} {D : Ends} {o : O} {v : V} {d : Z.D} {fp : List Addr}
theorem Ends'.weak (h : Ends' K mv2 as2 σ F H s fps D o) (m : ∀ j ∈ mv1, j ∈ mv2) (w : ∀ j ∈ as1, j ∈ as2) : Ends' K mv1 as1 σ F H s fps D o := by
  cases o with
  | nxt s' => exact fun σ' H' F' fps' R st k => h σ' H' F' fps' R (st.weak m) (k.weak w)
  | cnt s' => exact fun σ' H' F' fps' R st k => h σ' H' F' fps' R (st.weak m) (k.weak w)
  | brk s' => exact fun σ' H' F' fps' R st k => h σ' H' F' fps' R (st.weak m) (k.weak w)
  | ret d s' => exact fun v σ' H' F' fps' fp R st k r => h v σ' H' F' fps' fp R (st.weak m) (k.weak w) (res_weak r m fun _ z => z)
  | exc x s' => exact h
  | bad => exact h
/-- told from a later state -/
theorem Ends'.later (st1 : Stp mv1 F H s fps F1 H1 s1 fps1) (k1 : Kp as1 σ σ1) (h : Ends' K (mv1 ++ mv2) (as1 ++ as2) σ F H s fps D o) : Ends' K mv2 as2 σ1 F1 H1 s1 fps1 D o := by
  cases o with
  | nxt s' => exact fun σ' H' F' fps' R st k => h σ' H' F' fps' R (st1.trans st) (k1.trans k)
  | cnt s' => exact fun σ' H' F' fps' R st k => h σ' H' F' fps' R (st1.trans st) (k1.trans k)
  | brk s' => exact fun σ' H' F' fps' R st k => h σ' H' F' fps' R (st1.trans st) (k1.trans k)
  | ret d s' => exact fun v σ' H' F' fps' fp R st k r => h v σ' H' F' fps' fp R (st1.trans st) (k1.trans k) (r.later st1)
  | exc x s' => exact h
  | bad => exact h
/-- a slot is stored -/
theorem Rel.asg (R : Rel K F H σ s fps) (i : Nat) (r : Rep K F H v d fp) (hn : ∀ a ∈ fp, ∀ j, a ∉ fps j) : ∃ fps', Rel K F H (σ.set i (some v)) (s.set i (some d)) fps' ∧ (∀ j, j ≠ i → fps' j = fps j) ∧ ∀ a ∈ fps' i, a ∈ fp := by
  by_cases hi : i < s.length
  · refine ⟨fun j => if j = i then fp else fps j, ⟨R.sub, by rw [List.length_set, List.length_set]; exact R.len, fun j d' e' => ?_, fun j e' => ?_, fun j k hjk a ha => ?_⟩, fun j hj => if_neg hj, fun a ha => by simpa using ha⟩
    · rw [get_set hi] at e'
      by_cases h : j = i
      · subst h
        rw [if_pos rfl] at e'
        cases e'
        exact ⟨v, List.getElem?_set_self (by rw [← R.len]; exact hi), by simp only [if_true]; exact r⟩
      · rw [if_neg h] at e'
        obtain ⟨v', h1, r'⟩ := R.rep j d' e'
        exact ⟨v', by rw [List.getElem?_set_ne (fun z => h z.symm)]; exact h1, by simp only [if_neg h]; exact r'⟩
    · rw [get_set hi] at e'
      by_cases h : j = i
      · rw [if_pos h] at e'; cases e'
      · rw [if_neg h] at e'
        simp only [if_neg h]; exact R.nil j e'
    · by_cases h : j = i
      · simp only [if_pos h] at ha
        by_cases h2 : k = i
        · exact absurd (h.trans h2.symm) hjk
        · simp only [if_neg h2]; exact hn a ha k
      · simp only [if_neg h] at ha
        by_cases h2 : k = i
        · simp only [if_pos h2]; exact fun z => hn a z j ha
        · simp only [if_neg h2]; exact R.dis j k hjk a ha
  · have e1 : s.set i (some d) = s := List.set_eq_of_length_le (by omega)
    have e2 : σ.set i (some v) = σ := List.set_eq_of_length_le (by rw [← R.len]; omega)
    refine ⟨fps, by rw [e1, e2]; exact R, fun _ _ => rfl, fun a ha => ?_⟩
    have q : get s i = none := by
      unfold get
      rw [List.getD_eq_getElem?_getD, List.getElem?_eq_none (by omega)]
      rfl
    rw [R.nil i q] at ha
    cases ha
theorem kp_set {i : Nat} : Kp [i] σ (σ.set i (some v)) := fun j hj => List.getElem?_set_ne fun z => hj (List.mem_singleton.mpr z.symm)
end
theorem Rel.asg' {K : Kw} {F0 H0 F H : Hp} {σ : L2.St} {s0 s : Env} {fps0 fps : Fps} {mv : List Nat} {v : V} {d : D} {fp : List Addr} (R : Rel K F H σ s fps) (st : Stp mv F0 H0 s0 fps0 F H s fps) (i : Nat) (r : Res K mv [] H0 fps0 F H fps v d fp) :
    ∃ fps', Rel K F H (σ.set i (some v)) (s.set i (some d)) fps' ∧ Stp (mv ++ [i]) F0 H0 s0 fps0 F H (s.set i (some d)) fps' := by
  have hf : ∀ a ∈ fp, (∀ j, a ∉ fps j) ∧ (H0 a = none ∨ ∃ j ∈ mv, a ∈ fps0 j) := fun a ha => by
    rcases r.fr a ha with ⟨j, hj, _⟩ | q
    · cases hj
    · exact q
  obtain ⟨fps', R', h1, h2⟩ := R.asg i r.rep fun a ha => (hf a ha).1
  refine ⟨fps', R', st.f, fun a o e k => st.h a o e fun j hj => k j (List.mem_append_left _ hj), fun a e => ?_, fun j hj a ha => ?_, fun j hj => ?_, st.d⟩
  · rcases st.nf a e with q | q | ⟨j, hj, q⟩
    · exact .inl q
    · exact .inr (.inl q)
    · exact .inr (.inr ⟨j, List.mem_append_left _ hj, q⟩)
  · by_cases hji : j = i
    · subst hji
      rcases (hf a (h2 a ha)).2 with q | ⟨k, hk, q⟩
      · exact .inl q
      · exact .inr ⟨k, List.mem_append_left _ hk, q⟩
    · rw [h1 j hji] at ha
      have hj' : j ∈ mv := by
        rcases List.mem_append.mp hj with q | q
        · exact q
        · exact absurd (List.mem_singleton.mp q) hji
      rcases st.u j hj' a ha with q | ⟨k, hk, q⟩
      · exact .inl q
      · exact .inr ⟨k, List.mem_append_left _ hk, q⟩
  · have hji : j ≠ i := fun z => hj (List.mem_append_right _ (List.mem_singleton.mpr z))
    have q := st.o j fun z => hj (List.mem_append_left _ z)
    refine ⟨?_, (h1 j hji).trans q.2⟩
    rw [← q.1]
    unfold get
    rw [List.getD_eq_getElem?_getD, List.getD_eq_getElem?_getD, List.getElem?_set_ne fun z => hji z.symm]

section
variable {X : Cx} {pos : Pos}
theorem ss_asg {st : Stmt} {i : Nat} {mv : List Nat} {f : Env → R D} (h : PS X st (tAsg (tE X.kw mv [] f) (gName i))) : PS X st (tS X.kw (mv ++ [i]) [i] fun s => (f s).O fun d s => .nxt (s.set i (some d))) := ps_imp h fun D σ H h => by
  obtain ⟨F, s, fps, R, h⟩ := h
  refine ⟨F, s, fps, R, ?_⟩
  try dsimp only [Z.R.O] at h
  cases e : f s with
  | exc x s' => rw [e] at h; exact h
  | bad => rw [e] at h; exact h
  | ok d s1 =>
    rw [e] at h
    refine fun v H1 F1 fps1 fp R1 st1 rs => ?_
    obtain ⟨fps', R', st'⟩ := R1.asg' st1 i rs
    exact h _ H1 F1 fps' R' st' kp_set
theorem ss_ret {e : Expr} {mv : List Nat} {f : Env → R D} (he : PE X e (tE X.kw mv [] f)) : PS X (.Return (some e) pos) (tS X.kw mv [] fun s => (f s).O fun d s => .ret d s) := ps_imp (ps_ret he) fun D σ H h => by
  obtain ⟨F, s, fps, R, h⟩ := h
  refine ⟨F, s, fps, R, ?_⟩
  try dsimp only [Z.R.O] at h
  cases e : f s with
  | exc x s' => rw [e] at h; exact h
  | bad => rw [e] at h; exact h
  | ok d s1 =>
    rw [e] at h
    exact fun v H1 F1 fps1 fp R1 st1 rs => h v σ H1 F1 fps1 fp R1 st1 .refl rs
theorem ss_ex {st : Stmt} {mv vw : List Nat} {f : Env → R D} (h : PS X st (tDrop (tE X.kw mv vw f))) : PS X st (tS X.kw mv [] fun s => (f s).O fun _ s => .nxt s) := ps_imp h fun D σ H h => by
  obtain ⟨F, s, fps, R, h⟩ := h
  refine ⟨F, s, fps, R, ?_⟩
  try dsimp only [Z.R.O] at h
  cases e : f s with
  | exc x s' => rw [e] at h; exact h
  | bad => rw [e] at h; exact h
  | ok d s1 =>
    rw [e] at h
    exact fun v H1 F1 fps1 fp R1 st1 rs => h σ H1 F1 fps1 R1 st1 .refl
theorem ss_skip {st : Stmt} (h : PS X st tNext) : PS X st (tS X.kw [] [] fun s => .nxt s) := ps_imp h fun D σ H h => by
  obtain ⟨F, s, fps, R, h⟩ := h
  exact h σ H F fps R .refl .refl
theorem ss_brk : PS X (.Break pos) (tS X.kw [] [] fun s => .brk s) := ps_imp ps_break fun D σ H h => by
  obtain ⟨F, s, fps, R, h⟩ := h
  exact h σ H F fps R .refl .refl
theorem ss_cnt : PS X (.Continue pos) (tS X.kw [] [] fun s => .cnt s) := ps_imp ps_continue fun D σ H h => by
  obtain ⟨F, s, fps, R, h⟩ := h
  exact h σ H F fps R .refl .refl
def oSeq (a b : Env → O) : Env → O := fun s => match a s with
    | .nxt s => b s
    | o => o
theorem tS_seq {K : Kw} {mv1 mv2 as1 as2 : List Nat} {a b : Env → O} {D : Ends} {σ : L2.St} {H : Hp} (h : tS K (mv1 ++ mv2) (as1 ++ as2) (oSeq a b) D σ H) : tSeq (tS K mv1 as1 a) (tS K mv2 as2 b) D σ H := by
  obtain ⟨F, s, fps, R, h⟩ := h
  refine ⟨F, s, fps, R, ?_⟩
  unfold oSeq at h
  cases e : a s with
  | nxt s1 =>
    rw [e] at h
    exact fun σ1 H1 F1 fps1 R1 st1 k1 => ⟨F1, s1, fps1, R1, Ends'.later st1 k1 h⟩
  | cnt s1 => rw [e] at h; exact Ends'.weak (D := D) (o := .cnt s1) h mem_left mem_left
  | brk s1 => rw [e] at h; exact Ends'.weak (D := D) (o := .brk s1) h mem_left mem_left
  | ret d s1 => rw [e] at h; exact Ends'.weak (D := D) (o := .ret d s1) h mem_left mem_left
  | exc x s1 => rw [e] at h; exact h
  | bad => rw [e] at h; exact h
theorem sss_cons {st : Stmt} {rest : List Stmt} {mv1 mv2 as1 as2 : List Nat} {a b : Env → O} (h1 : PS X st (tS X.kw mv1 as1 a)) (h2 : PSs X rest (tS X.kw mv2 as2 b)) : PSs X (st :: rest) (tS X.kw (mv1 ++ mv2) (as1 ++ as2) (oSeq a b)) :=
  pss_imp (pss_cons h1 h2) fun D σ H h => tS_seq h
theorem sss_one {st : Stmt} {mv1 as1 : List Nat} {a : Env → O} (h1 : PS X st (tS X.kw mv1 as1 a)) : PSs X [st] (tS X.kw mv1 as1 a) := pss_one h1
theorem sss_nil : PSs X [] (tS X.kw [] [] fun s => .nxt s) := pss_imp pss_nil fun D σ H h => by
  obtain ⟨F, s, fps, R, h⟩ := h
  exact h σ H F fps R .refl .refl
def oIte (c : Env → R D) (a b : Env → O) : Env → O := fun s => (c s).O fun x s => match asB x with
    | some true => a s
    | some false => b s
    | none => .bad
theorem ss_if {c : Expr} {a b : List Stmt} {mvc mva mvb asa asb : List Nat} {fc : Env → R D} {fa fb : Env → O} (hc : PT X c (tT X.kw mvc fc)) (ha : PSs X a (tS X.kw mva asa fa)) (hb : PSs X b (tS X.kw mvb asb fb)) :
    PS X (.If c a b pos) (tS X.kw (mvc ++ (mva ++ mvb)) (asa ++ asb) (oIte fc fa fb)) := ps_imp (ps_if hc ha hb) fun D σ H h => by
  obtain ⟨F, s, fps, R, h⟩ := h
  refine ⟨F, s, fps, R, ?_⟩
  try dsimp only [oIte, Z.R.O] at h
  cases e : fc s with
  | exc x s' => rw [e] at h; exact h
  | bad => rw [e] at h; exact h
  | ok d s1 =>
    rw [e] at h
    try dsimp only at h ⊢
    cases eb : asB d with
    | none => rw [eb] at h; exact h
    | some c =>
      rw [eb] at h
      refine fun H1 F1 fps1 R1 st1 => ?_
      have h' : Ends' X.kw (mvc ++ (mva ++ mvb)) ([] ++ (asa ++ asb)) σ F H s fps D _ := h
      have q := Ends'.later (mv2 := mva ++ mvb) (as1 := []) st1 (Kp.refl (σ := σ)) h'
      cases c with
      | true => exact ⟨F1, s1, fps1, R1, q.weak mem_left mem_left⟩
      | false => exact ⟨F1, s1, fps1, R1, q.weak mem_right mem_right⟩
end
end Z

set_option Elab.async false
set_option linter.all false
set_option maxRecDepth 100000
namespace Z
open PySem PySem.Spec PyProof.Rows L2

/-! ### targets -/
def T.sl : T → List Nat
  | .nm i => [i]
  | .tp is => is
def gs : List Nat → TGs
  | [] => gNil
  | i :: is => gCons (gName i) (gs is)
def gT (K : Kw) : T → TG
  | .nm i => gName i
  | .tp is => gTup K is.length (gs is)
/-- the slots is are stored -/
structure Asg (is : List Nat) (fp : List Addr) (s : Env) (fps : Fps) (s' : Env) (fps' : Fps) : Prop where
  o : ∀ j, j ∉ is → get s' j = get s j ∧ fps' j = fps j
  i : ∀ j ∈ is, ∀ a ∈ fps' j, a ∈ fp ∨ a ∈ fps j
section
variable {K : Kw} {F H F0 H0 : Hp} {σ : L2.St} {s s0 : Env} {fps fps0 : Fps} {mv : List Nat}
theorem asg_one {v : V} {d : D} {fp : List Addr} (R : Rel K F H σ s fps) (i : Nat) (r : Rep K F H v d fp) (hn : ∀ a ∈ fp, ∀ j, a ∉ fps j) : ∃ fps', Rel K F H (σ.set i (some v)) (s.set i (some d)) fps' ∧ Asg [i] fp s fps (s.set i (some d)) fps' := by
  obtain ⟨fps', R', h1, h2⟩ := R.asg i r hn
  refine ⟨fps', R', fun j hj => ?_, fun j hj a ha => ?_⟩
  · have hji : j ≠ i := fun z => hj (List.mem_singleton.mpr z)
    refine ⟨?_, h1 j hji⟩
    unfold get
    rw [List.getD_eq_getElem?_getD, List.getD_eq_getElem?_getD, List.getElem?_set_ne fun z => hji z.symm]
  · have : j = i := List.mem_singleton.mp hj
    subst this
    exact .inl (h2 a ha)
theorem asg_many : ∀ {is : List Nat} {vs : List V} {ds : List D} {fp : List Addr} {σ : L2.St} {s : Env} {fps : Fps} {Q : L2.St → Hp → Prop}, Rel K F H σ s fps → Reps K F H vs ds fp → is.length = ds.length → (∀ a ∈ fp, ∀ j, a ∉ fps j) →
    (∀ σ' fps', Rel K F H σ' ((is.zip ds).foldl (fun s p => s.set p.1 (some p.2)) s) fps' → Kp is σ σ' → Asg is fp s fps ((is.zip ds).foldl (fun s p => s.set p.1 (some p.2)) s) fps' → Q σ' H) → gs is vs σ H Q
  | [], _, [], _, σ, s, fps, Q, R, r, _, hn, h => by
    cases r
    exact ⟨rfl, h σ fps R .refl ⟨fun _ _ => ⟨rfl, rfl⟩, fun _ z => nomatch z⟩⟩
  | [], _, _ :: _, _, _, _, _, _, _, _, e, _, _ => by simp at e
  | _ :: _, _, [], _, _, _, _, _, _, _, e, _, _ => by simp at e
  | i :: is, _, d :: ds, _, σ, s, fps, Q, R, r, e, hn, h => by
    cases r with
    | @cons v _ vs _ fp fq h1 h2 hd =>
      obtain ⟨fps1, R1, A1⟩ := asg_one R i h1 fun a ha => hn a (List.mem_append_left _ ha)
      refine ⟨v, vs, rfl, ?_⟩
      refine asg_many R1 h2 (by simpa using e) (fun a ha j z => ?_) fun σ' fps' R' k A => ?_
      · by_cases hj : j ∈ [i]
        · rcases A1.i j hj a z with q | q
          · exact hd a q ha
          · exact hn a (List.mem_append_right _ ha) j q
        · rw [(A1.o j hj).2] at z
          exact hn a (List.mem_append_right _ ha) j z
      · refine h σ' fps' R' (Kp.weak (Kp.trans (kp_set (i := i) (v := v)) k) fun j hj => by simpa using hj) ⟨fun j hj => ?_, fun j hj a ha => ?_⟩
        · have h1 := A1.o j fun z => hj (by rw [List.mem_singleton.mp z]; exact List.mem_cons_self)
          have h2 := A.o j fun z => hj (List.mem_cons_of_mem _ z)
          exact ⟨h2.1.trans h1.1, h2.2.trans h1.2⟩
        · have key : a ∈ fps1 j → a ∈ fp ++ fq ∨ a ∈ fps j := fun z => by
            by_cases hj1 : j ∈ [i]
            · rcases A1.i j hj1 a z with q | q
              · exact .inl (List.mem_append_left _ q)
              · exact .inr q
            · rw [(A1.o j hj1).2] at z
              exact .inr z
          by_cases hj2 : j ∈ is
          · rcases A.i j hj2 a ha with q | q
            · exact .inl (List.mem_append_right _ q)
            · exact key q
          · rw [(A.o j hj2).2] at ha
            exact key ha
theorem tgt {tg : T} {v : V} {d : D} {fp : List Addr} {s' : Env} {Q : L2.St → Hp → Prop} (R : Rel K F H σ s fps) (r : Rep K F H v d fp) (hn : ∀ a ∈ fp, ∀ j, a ∉ fps j) (e : assignT tg d s = some s')
    (h : ∀ σ' fps', Rel K F H σ' s' fps' → Kp tg.sl σ σ' → Asg tg.sl fp s fps s' fps' → Q σ' H) : gT K tg v σ H Q := by
  cases tg with
  | nm i =>
    simp only [assignT, Option.some.injEq] at e
    subst e
    obtain ⟨fps', R', A⟩ := asg_one R i r hn
    exact h _ fps' R' kp_set A
  | tp is =>
    cases d <;> simp only [assignT, reduceCtorEq] at e
    rename_i ds
    by_cases hl : is.length = ds.length
    · rw [if_pos hl] at e
      cases e
      obtain ⟨a, vs, rfl, t0, t1, p1⟩ := rep_tup R.sub r
      exact ⟨a, vs, rfl, t1, by rw [p1.len]; exact hl.symm, asg_many R p1 hl hn h⟩
    · rw [if_neg hl] at e; cases e
theorem Asg.stp {is : List Nat} {fp : List Addr} {s' : Env} {fps' : Fps} (A : Asg is fp s fps s' fps') (st : Stp mv F0 H0 s0 fps0 F H s fps) (hf : ∀ a ∈ fp, H0 a = none ∨ ∃ j ∈ mv, a ∈ fps0 j) : Stp (mv ++ is) F0 H0 s0 fps0 F H s' fps' := by
  have old : ∀ (a : Addr) (j : Nat), j ∈ mv ++ is → a ∈ fps j → H0 a = none ∨ ∃ k ∈ mv ++ is, a ∈ fps0 k := fun a j hj z => by
    rcases st.back z with y | ⟨k, hk, y⟩ | ⟨_, y⟩
    · exact .inl y
    · exact .inr ⟨k, List.mem_append_left _ hk, y⟩
    · exact .inr ⟨j, hj, y⟩
  refine ⟨st.f, fun a o e k => st.h a o e fun j hj => k j (List.mem_append_left _ hj), fun a e => ?_, fun j hj a ha => ?_, fun j hj => ?_, st.d⟩
  · rcases st.nf a e with q | q | ⟨j, hj, q⟩
    · exact .inl q
    · exact .inr (.inl q)
    · exact .inr (.inr ⟨j, List.mem_append_left _ hj, q⟩)
  · by_cases hji : j ∈ is
    · rcases A.i j hji a ha with q | q
      · rcases hf a q with y | ⟨k, hk, y⟩
        · exact .inl y
        · exact .inr ⟨k, List.mem_append_left _ hk, y⟩
      · exact old a j hj q
    · rw [(A.o j hji).2] at ha
      exact old a j hj ha
  · have q := st.o j fun z => hj (List.mem_append_left _ z)
    have w := A.o j fun z => hj (List.mem_append_right _ z)
    exact ⟨w.1.trans q.1, w.2.trans q.2⟩
end
section
variable {X : Cx} {pos : Pos}
theorem ss_unp {st : Stmt} {is : List Nat} {mv : List Nat} {f : Env → R D} (h : PS X st (tAsg (tE X.kw mv [] f) (gT X.kw (.tp is)))) : PS X st (tS X.kw (mv ++ is) is fun s => (f s).O fun d s => match assignT (.tp is) d s with
    | some s => .nxt s
    | none => .bad) := ps_imp h fun D σ H h => by
  obtain ⟨F, s, fps, R, h⟩ := h
  refine ⟨F, s, fps, R, ?_⟩
  try dsimp only [Z.R.O] at h
  cases e : f s with
  | exc x s' => rw [e] at h; exact h
  | bad => rw [e] at h; exact h
  | ok d s1 =>
    rw [e] at h
    try dsimp only at h
    refine fun v H1 F1 fps1 fp R1 st1 rs => ?_
    have hf : ∀ a ∈ fp, (∀ j, a ∉ fps1 j) ∧ (H a = none ∨ ∃ j ∈ mv, a ∈ fps j) := fun a ha => by
      rcases rs.fr a ha with ⟨j, hj, _⟩ | q
      · cases hj
      · exact q
    cases ea : assignT (.tp is) d s1 with
    | none => rw [ea] at h; exact h.elim
    | some s2 =>
      rw [ea] at h
      exact tgt (tg := .tp is) R1 rs.rep (fun a ha => (hf a ha).1) ea fun σ' fps' R' k A => h σ' H1 F1 fps' R' (A.stp st1 fun a ha => (hf a ha).2) k
/-- x[k] = y of a list -/
theorem reps_set {K : Kw} {F H : Hp} : ∀ {vs : List V} {ds : List D} {fp fq : List Addr} {j : Nat} {v : V} {d : D}, Reps K F H vs ds fp → Rep K F H v d fq → (∀ a ∈ fq, a ∉ fp) → j < ds.length → ∃ fp', Reps K F H (vs.set j v) (ds.set j d) fp' ∧ ∀ a ∈ fp', a ∈ fp ∨ a ∈ fq
  | _, _, _, _, _, _, _, .nil, _, _, h => by simp at h
  | _, _, _, fq, 0, v, d, .cons (fp := f1) (fq := f2) h1 h2 hd, r, hn, _ => ⟨fq ++ f2, .cons r h2 fun a ha z => hn a ha (List.mem_append_right _ z), fun a ha => by
    rcases List.mem_append.mp ha with q | q
    · exact .inr q
    · exact .inl (List.mem_append_right _ q)⟩
  | _, _, _, fq, j + 1, v, d, .cons (fp := f1) (fq := f2) h1 h2 hd, r, hn, hl => by
    obtain ⟨fp', r', m⟩ := reps_set h2 r (fun a ha z => hn a ha (List.mem_append_right _ z)) (by simpa using hl)
    refine ⟨f1 ++ fp', .cons h1 r' fun a ha z => ?_, fun a ha => ?_⟩
    · rcases m a z with q | q
      · exact hd a ha q
      · exact hn a q (List.mem_append_left _ ha)
    · rcases List.mem_append.mp ha with q | q
      · exact .inl (List.mem_append_left _ q)
      · rcases m a q with q | q
        · exact .inl (List.mem_append_right _ q)
        · exact .inr q
/-- an owned object of a slot is changed -/
theorem Rel.change {K : Kw} {F H H' : Hp} {σ : L2.St} {s : Env} {fps : Fps} {i : Nat} {v : V} {d' : D} {fp' : List Addr} (R : Rel K F H σ s fps) (hi : i < s.length) (hv : σ[i]? = some (some v)) (hk : ∀ a o, H a = some o → a ∉ fps i → H' a = some o)
    (hf : ∀ a ∈ fps i, F a = none) (r : Rep K F H' v d' fp') (hn : ∀ a ∈ fp', a ∈ fps i ∨ ∀ j, a ∉ fps j) : Rel K F H' σ (s.set i (some d')) (fun j => if j = i then fp' else fps j) := by
  refine ⟨fun a o e => hk a o (R.sub a o e) fun z => ?_, by rw [List.length_set]; exact R.len, fun j d e => ?_, fun j e => ?_, fun j k hjk a ha => ?_⟩
  · rw [hf a z] at e; cases e
  · rw [get_set hi] at e
    by_cases h : j = i
    · subst h
      rw [if_pos rfl] at e
      cases e
      exact ⟨v, hv, by simp only [if_true]; exact r⟩
    · rw [if_neg h] at e
      obtain ⟨w, h1, h2⟩ := R.rep j d e
      refine ⟨w, h1, ?_⟩
      simp only [if_neg h]
      exact h2.mono (fun _ _ e => e) fun a ha => ⟨fun o e => hk a o e (R.dis j i h a ha), (h2.own a ha).1⟩
  · rw [get_set hi] at e
    by_cases h : j = i
    · rw [if_pos h] at e; cases e
    · rw [if_neg h] at e
      simp only [if_neg h]
      exact R.nil j e
  · by_cases h : j = i
    · simp only [if_pos h] at ha
      by_cases h2 : k = i
      · exact absurd (h.trans h2.symm) hjk
      · simp only [if_neg h2]
        rcases hn a ha with q | q
        · exact R.dis i k (fun e => h2 e.symm) a q
        · exact q k
    · simp only [if_neg h] at ha
      by_cases h2 : k = i
      · simp only [if_pos h2]
        exact fun z => by
          rcases hn a z with q | q
          · exact R.dis j i h a ha q
          · exact q j ha
      · simp only [if_neg h2]; exact R.dis j k hjk a ha
theorem ix_same {n : Nat} {i : Int} {j : Nat} (h : ixOf n i = some j) : j < n := by
  unfold ixOf at h
  split at h
  · split at h
    · cases h; omega
    · cases h
  · split at h
    · cases h; omega
    · cases h
/-- x[k] = y, by values -/
def rSt (K : Kw) : TSet := fun o i v H Q => ∃ F d fp dk fk dy fy d', (∀ a o, F a = some o → H a = some o) ∧ Rep K F H o d fp ∧ Rep K F H i dk fk ∧ Rep K F H v dy fy ∧ (∀ a ∈ fy, a ∉ fp) ∧ storeAt d dk dy = some d' ∧
  ∀ H' fp', (∀ a o, H a = some o → a ∉ fp → H' a = some o) → (∀ a, H' a = none → H a = none) → Rep K F H' o d' fp' → (∀ a ∈ fp', a ∈ fp ∨ a ∈ fy ∨ H a = none) → Q H'
theorem set_st (hu : X.A.units + 65 < cLine) : PSet X (rSt X.kw) := by
  intro pins s σ H o i v ov iv u Q I ro ri rv h
  obtain ⟨F, d, fp, dk, fk, dy, fy, d', m, r1, r2, r3, hn, e, q⟩ := h
  cases d <;> (try (simp only [storeAt, reduceCtorEq] at e; done))
  rotate_left
  · rename_i b kvs
    cases b <;> (try (simp only [storeAt, reduceCtorEq] at e; done))
    simp only [storeAt] at e
    split at e
    · rename_i hk
      cases e
      rw [Bool.and_eq_true, decide_eq_true_eq] at hk
      cases r1 with
      | @dctO a o zs _ fp0 h hf ok hs hkk hq ha =>
        obtain rfl : ov = Value.ref a := ro
        refine d_set hu I m ⟨h, ok, hs, hkk⟩ hk.1 hk.2 r2 ri r3 rv (fun c hc z => hn c hc (List.mem_cons_of_mem _ z)) fun o' fp' zs' s' I' ok' p' k' q' hp' => ⟨_, I', ?_⟩
        have hu2 : ∀ b : Addr, b ≠ a → ∀ w, H b = some w → (upd H a (DO a o')) b = some w := fun b hb w e => by rw [upd_ne hb]; exact e
        have own : ∀ c ∈ fp', OwnAt F H c := fun c hc => by
          rcases hp' c hc with z | z
          · exact hs.own c z
          · exact r3.own c z
        have ne : ∀ c ∈ fp', c ≠ a := fun c hc z => by
          subst z
          rcases hp' c hc with z | z
          · exact ha z
          · exact hn c z List.mem_cons_self
        have p2 : PReps X.kw F (upd H a (DO a o')) (zs'.map (·.2)) (dput kvs dk dy) fp' := p'.mono (fun _ _ e => e) fun c hc => ⟨hu2 c (ne c hc), (own c hc).1⟩
        refine q _ (a :: fp') (fun b w e hb => hu2 b (fun z => hb (z ▸ List.mem_cons_self)) w e) (fun b e => ?_) (.dctO upd_same hf ok' p2 k' ⟨_, (kin_ok hk.1).1, q'⟩ fun z => ne a z rfl) fun b hb => ?_
        · by_cases hb : b = a
          · subst hb; rw [upd_same] at e; cases e
          · rw [upd_ne hb] at e; exact e
        · rcases List.mem_cons.mp hb with z | z
          · subst z; exact .inl List.mem_cons_self
          · rcases hp' b z with y | y
            · exact .inl (List.mem_cons_of_mem _ y)
            · exact .inr (.inl y)
    · cases e
  rename_i b xs
  cases b <;> (try (simp only [storeAt, reduceCtorEq] at e; done))
  cases dk <;> simp only [storeAt, reduceCtorEq, Option.map_eq_some_iff] at e
  rename_i k
  obtain ⟨j, e1, rfl⟩ := e
  obtain ⟨rfl, _⟩ := rep_int r2
  cases r1 with
  | @lstO a vs _ fp0 h hf hs ha =>
    have l1 := hs.len
    have hj : j < xs.length := ix_same e1
    refine set_list pins s σ H _ _ v ov iv u Q I ro ri rv ⟨a, vs, k, j, rfl, rfl, h, by rw [l1]; exact e1, ?_⟩
    have hu : ∀ b : Addr, b ≠ a → ∀ o, H b = some o → (upd H a (.lst (vs.set j v))) b = some o := fun b hb o e => by rw [upd_ne hb]; exact e
    have hs' : Reps X.kw F (upd H a (.lst (vs.set j v))) vs xs fp0 := hs.mono (fun _ _ e => e) fun b hb => ⟨hu b (fun z => ha (z ▸ hb)), (hs.own b hb).1⟩
    have r3' : Rep X.kw F (upd H a (.lst (vs.set j v))) v dy fy := r3.mono (fun _ _ e => e) fun b hb => ⟨hu b (fun z => hn b hb (z ▸ List.mem_cons_self)), (r3.own b hb).1⟩
    obtain ⟨fp', p', hp'⟩ := reps_set (j := j) hs' r3' (fun b hb z => hn b hb (List.mem_cons_of_mem _ z)) hj
    refine q _ (a :: fp') (fun b o e hb => hu b (fun z => hb (z ▸ List.mem_cons_self)) o e) (fun b e => ?_) (.lstO upd_same hf p' fun z => ?_) fun b hb => ?_
    · by_cases hb : b = a
      · subst hb; rw [upd_same] at e; cases e
      · rw [upd_ne hb] at e; exact e
    · rcases hp' a z with y | y
      · exact ha y
      · exact hn a y List.mem_cons_self
    · rcases List.mem_cons.mp hb with z | z
      · subst z; exact .inl List.mem_cons_self
      · rcases hp' b z with y | y
        · exact .inl (List.mem_cons_of_mem _ y)
        · exact .inr (.inl y)
def oSt (i : Nat) (fk fe : Env → R D) : Env → O := fun s => (fe s).O fun y s => match get s i with
    | some _ => (fk s).O fun k s => match get s i with
      | some d => match storeAt d k y with
        | some d' => .nxt (s.set i (some d'))
        | none => .bad
      | none => .bad
    | none => .bad
theorem Stp.change {F0 H0 F H H' : Hp} {s0 s s' : Env} {fps0 fps : Fps} {mv : List Nat} {i : Nat} {fp' : List Addr} (st : Stp mv F0 H0 s0 fps0 F H s fps) (hk : ∀ a o, H a = some o → a ∉ fps i → H' a = some o) (hd : ∀ a, H' a = none → H a = none)
    (hg : ∀ j, j ≠ i → get s' j = get s j) (hn : ∀ a ∈ fp', a ∈ fps i ∨ H a = none ∨ H0 a = none ∨ ∃ j ∈ mv, a ∈ fps0 j) : Stp (mv ++ [i]) F0 H0 s0 fps0 F H' s' (fun j => if j = i then fp' else fps j) := by
  have old : ∀ (a : Addr) (j : Nat), j ∈ mv ++ [i] → a ∈ fps j → H0 a = none ∨ ∃ k ∈ mv ++ [i], a ∈ fps0 k := fun a j hj z => by
    rcases st.back z with y | ⟨k, hk, y⟩ | ⟨_, y⟩
    · exact .inl y
    · exact .inr ⟨k, List.mem_append_left _ hk, y⟩
    · exact .inr ⟨j, hj, y⟩
  refine ⟨st.f, fun a o e k => ?_, fun a e => ?_, fun j hj a ha => ?_, fun j hj => ?_, fun a e => st.d a (hd a e)⟩
  · refine hk a o (st.h a o e fun j hj => k j (List.mem_append_left _ hj)) fun z => ?_
    rcases old a i (List.mem_append_right _ (List.mem_singleton.mpr rfl)) z with y | ⟨j, hj, y⟩
    · rw [e] at y; cases y
    · exact k j hj y
  · rcases st.nf a e with q | q | ⟨j, hj, q⟩
    · exact .inl q
    · exact .inr (.inl q)
    · exact .inr (.inr ⟨j, List.mem_append_left _ hj, q⟩)
  · by_cases hji : j = i
    · simp only [if_pos hji] at ha
      rcases hn a ha with q | q | q | ⟨k, hk, q⟩
      · exact old a i (List.mem_append_right _ (List.mem_singleton.mpr rfl)) q
      · exact .inl (st.d a q)
      · exact .inl q
      · exact .inr ⟨k, List.mem_append_left _ hk, q⟩
    · simp only [if_neg hji] at ha
      exact old a j hj ha
  · have hji : j ≠ i := fun z => hj (List.mem_append_right _ (List.mem_singleton.mpr z))
    have q := st.o j fun z => hj (List.mem_append_left _ z)
    exact ⟨(hg j hji).trans q.1, by simp only [if_neg hji]; exact q.2⟩
theorem get_set_ne {s : Env} {i j : Nat} {o : Option D} (h : j ≠ i) : get (s.set i o) j = get s j := by
  unfold get
  rw [List.getD_eq_getElem?_getD, List.getD_eq_getElem?_getD, List.getElem?_set_ne fun z => h z.symm]
theorem ss_st {x : Str} {xp sp : Pos} {k e : Expr} {i : Nat} {mvk vwk mve : List Nat} {fk fe : Env → R D} (he : PE X e (tE X.kw mve [] fe)) (hg : PG X (.Subscript (.Name x xp) k sp) (gSub (tVar i) (tE X.kw mvk vwk fk) (rSt X.kw)))
    (h1 : swapsWithSole [.Subscript (.Name x xp) k sp] e pos.line X.env = pure false) (h2 : swappedStores [.Subscript (.Name x xp) k sp] e X.env = pure none) :
    PS X (.Assign [.Subscript (.Name x xp) k sp] e pos) (tS X.kw (mve ++ mvk ++ [i]) [] (oSt i fk fe)) := ps_imp (ps_asg he hg h1 h2) fun D σ H h => by
  obtain ⟨F, s, fps, R, h⟩ := h
  refine ⟨F, s, fps, R, ?_⟩
  try dsimp only [Z.R.O, oSt] at h
  cases ee : fe s with
  | exc x s' => rw [ee] at h; exact h
  | bad => rw [ee] at h; exact h
  | ok dy s1 =>
    rw [ee] at h
    try dsimp only at h
    refine fun y H1 F1 fps1 fpy R1 st1 rs1 => ?_
    cases eg0 : get s1 i with
    | none => rw [eg0] at h; exact h.elim
    | some d0 =>
      rw [eg0] at h
      try dsimp only at h
      obtain ⟨v0, hv0, _⟩ := R1.rep i d0 eg0
      refine ⟨v0, hv0, F1, s1, fps1, R1, ?_⟩
      cases ek : fk s1 with
      | exc x s' => rw [ek] at h; exact h.elim
      | bad => rw [ek] at h; exact h.elim
      | ok dk s2 =>
        rw [ek] at h
        try dsimp only at h
        cases eg : get s2 i with
        | none => rw [eg] at h; exact h.elim
        | some d =>
          rw [eg] at h
          try dsimp only at h
          cases es : storeAt d dk dy with
          | none => rw [es] at h; exact h.elim
          | some d' =>
            rw [es] at h
            refine fun z H2 F2 fps2 fpk R2 st2 rs2 => ?_
            obtain ⟨v, hv, r⟩ := R2.rep i d eg
            rw [hv0] at hv
            cases hv
            have ry := rs1.on R1 st2 (.inl disj_nil)
            have fy : ∀ a ∈ fpy, (∀ j, a ∉ fps2 j) ∧ (H a = none ∨ ∃ j ∈ mve ++ mvk, a ∈ fps j) := fun a ha => by
              rcases ry.fr a ha with ⟨j, hj, _⟩ | q
              · cases hj
              · exact q
            have st := st1.trans st2
            refine ⟨F2, d, fps2 i, dk, fpk, dy, fpy, d', R2.sub, r, rs2.rep, ry.rep, fun a ha => (fy a ha).1 i, es, fun H' fp' hk hd r' hn => ?_⟩
            refine h σ H' F2 (fun j => if j = i then fp' else fps2 j) (R2.change (get_lt eg) hv0 hk (fun a ha => (R2.there ha).1) r' fun a ha => ?_) (st.change hk hd (fun j hj => get_set_ne hj) fun a ha => ?_) Kp.refl
            · rcases hn a ha with q | q | q
              · exact .inl q
              · exact .inr (fy a q).1
              · refine .inr fun j z => ?_
                obtain ⟨_, o, ho, _⟩ := R2.there z
                rw [q] at ho; cases ho
            · rcases hn a ha with q | q | q
              · exact .inl q
              · rcases (fy a q).2 with w | ⟨j, hj, w⟩
                · exact .inr (.inr (.inl w))
                · exact .inr (.inr (.inr ⟨j, hj, w⟩))
              · exact .inr (.inl q)
/-! ### x op= e -/
def rAug (K : Kw) (o : O2) : TIp := fun x y H Q => ∃ F d1 fp1 d2 fp2 d, (∀ a o, F a = some o → H a = some o) ∧ Rep K F H x d1 fp1 ∧ Rep K F H y d2 fp2 ∧ aug2 o d1 d2 = some d ∧ Give K false fp1 F H d Q
theorem ip_addZ : PIp X .Add (rAug X.kw .add) := by
  intro pins s σ H x y v u Q I rx ry h
  obtain ⟨F, d1, fp1, d2, fp2, d, m, r1, r2, e, q⟩ := h
  cases d1 <;> cases d2 <;> simp only [aug2, reduceCtorEq] at e
  · obtain ⟨rfl, _⟩ := rep_int r1
    obtain ⟨rfl, _⟩ := rep_int r2
    cases e
    exact iop_add pins s σ H _ _ v u Q I rx ry ⟨_, _, rfl, rfl, give_int m q⟩
  · rename_i s1 s2
    obtain ⟨rfl, _, a1⟩ := rep_str r1
    obtain ⟨rfl, _, a2⟩ := rep_str r2
    by_cases hl : s1.length + s2.length ≤ SL
    · rw [if_pos hl] at e
      cases e
      exact iop_add_str pins s σ H _ _ v u Q I rx ry ⟨_, _, rfl, rfl, by rw [SX.S_len, SX.S_len, sl_eq]; exact hl, by rw [SX.S_cat]; exact give_str m (asc_app a1 a2) q⟩
    · rw [if_neg hl] at e; cases e
theorem ip_subZ : PIp X .Sub (rAug X.kw .sub) := by
  intro pins s σ H x y v u Q I rx ry h
  obtain ⟨F, d1, fp1, d2, fp2, d, m, r1, r2, e, q⟩ := h
  cases d1 <;> cases d2 <;> simp only [aug2, reduceCtorEq] at e
  obtain ⟨rfl, _⟩ := rep_int r1
  obtain ⟨rfl, _⟩ := rep_int r2
  cases e
  exact iop_sub pins s σ H _ _ v u Q I rx ry ⟨_, _, rfl, rfl, give_int m q⟩
def oAug (i : Nat) (o : O2) (f : Env → R D) : Env → O := fun s => match get s i with
    | some _ => (f s).O fun y s => match get s i with
      | some x => match aug2 o x y with
        | some z => .nxt (s.set i (some z))
        | none => .bad
      | none => .bad
    | none => .bad
theorem ss_aug {st : Stmt} {i : Nat} {mv vw : List Nat} {f : Env → R D} {o : O2} (h : PS X st (tAug i (tE X.kw mv vw f) (rAug X.kw o))) : PS X st (tS X.kw (mv ++ [i]) [i] (oAug i o f)) := ps_imp h fun D σ H h => by
  obtain ⟨F, s, fps, R, h⟩ := h
  try dsimp only [oAug] at h
  cases eg0 : get s i with
  | none => rw [eg0] at h; exact h.elim
  | some d0 =>
    rw [eg0] at h
    try dsimp only [Z.R.O] at h
    obtain ⟨v0, hv0, _⟩ := R.rep i d0 eg0
    refine ⟨v0, hv0, F, s, fps, R, ?_⟩
    cases e : f s with
    | exc x s' => rw [e] at h; exact h
    | bad => rw [e] at h; exact h
    | ok d s1 =>
      rw [e] at h
      try dsimp only at h
      refine fun v H1 F1 fps1 fp R1 st1 rs => ?_
      cases eg : get s1 i with
      | none => rw [eg] at h; exact h.elim
      | some d1 =>
        rw [eg] at h
        try dsimp only at h
        obtain ⟨v1, hv1, r1⟩ := R1.rep i d1 eg
        rw [hv0] at hv1
        cases hv1
        cases ea : aug2 o d1 d with
        | none => rw [ea] at h; exact h.elim
        | some z =>
          rw [ea] at h
          refine ⟨F1, d1, _, d, fp, z, R1.sub, r1, rs.rep, ea, fun w H2 F2 fp2 x r k => ?_⟩
          have R2 := R1.ext x
          have st2 := st1.trans (x.stp (mv := []) (s := s1) (fps := fps1))
          rw [List.append_nil] at st2
          obtain ⟨fps', R', st'⟩ := R2.asg' st2 i ⟨r, fun a ha => by
            rcases k a ha with q | ⟨q, _⟩
            · refine .inr ⟨fun j z => ?_, .inl (st1.d a q)⟩
              obtain ⟨_, o, ho, _⟩ := R1.there z
              rw [q] at ho; cases ho
            · cases q⟩
          exact h _ H2 F2 fps' R' st' kp_set
end
end Z

set_option Elab.async false
set_option linter.all false
set_option maxRecDepth 100000
namespace Z
open PySem PySem.Spec PyProof.Rows L2

/-! ### what is walked -/
/-- as long as the protected objects pr stand, J gives xs -/
structure ItOk (K : Kw) (J : It) (pr : List Addr) (F' H' : Hp) (xs : List D) : Prop where
  go : ∀ (i : Nat) (F2 H2 : Hp), (∀ a o, F' a = some o → F2 a = some o) → (∀ a o, F2 a = some o → H2 a = some o) → (∀ a ∈ pr, ∀ o, H' a = some o → H2 a = some o) → ∀ d, xs[i]? = some d →
    J.go i H2 ∧ ∀ x H3, J.yld i H2 x H3 → ∃ F3, Ext F2 H2 F3 H3 ∧ Rep K F3 H3 x d []
  stop : ∀ (i : Nat) (F2 H2 : Hp), (∀ a o, F' a = some o → F2 a = some o) → (∀ a o, F2 a = some o → H2 a = some o) → (∀ a ∈ pr, ∀ o, H' a = some o → H2 a = some o) → xs.length ≤ i → J.stop i H2
def Prot (vw : List Nat) (H' : Hp) (fps' : Fps) (pr : List Addr) : Prop := ∀ a ∈ pr, (∃ o, H' a = some o) ∧ ((∃ j ∈ vw, a ∈ fps' j) ∨ ∀ j, a ∉ fps' j)
def tR (K : Kw) (mv vw : List Nat) (f : Env → R (List D)) : TI := fun σ H Rw => ∃ F s fps, Rel K F H σ s fps ∧ match f s with
  | .ok xs s' => ∀ J pr H' F' fps', Rel K F' H' σ s' fps' → Stp mv F H s fps F' H' s' fps' → ItOk K J pr F' H' xs → Prot vw H' fps' pr → Rw J H'
  | _ => False
theorem pi_imp {X : Cx} {tg e : Expr} {t t' : TI} (h : PI X tg e t) (i : ∀ σ H Q, t' σ H Q → t σ H Q) : PI X tg e t' := ⟨fun pins s σ H Q I q => h.run pins s σ H Q I (i _ _ _ q)⟩
theorem pi_or {X : Cx} {tg e : Expr} {t t' : TI} (h : PI X tg e t) (h' : PI X tg e t') : PI X tg e (fun σ H R => t σ H R ∨ t' σ H R) := ⟨fun pins s σ H R I q => by
  rcases q with q | q
  · exact h.run pins s σ H R I q
  · exact h'.run pins s σ H R I q⟩
section
variable {K : Kw} {F H : Hp} {fp : List Addr}
theorem itl_ok {a : Addr} {vs : List V} {ds : List D} {pr : List Addr} (hs : ∀ F2 H2 : Hp, (∀ a o, F a = some o → F2 a = some o) → (∀ a o, F2 a = some o → H2 a = some o) → (∀ a ∈ pr, ∀ o, H a = some o → H2 a = some o) → SqL K H2 a vs) (r : Reps K F H vs ds []) : ItOk K (Itl K a) pr F H ds := by
  refine ⟨fun i F2 H2 h1 h2 h3 d e => ?_, fun i F2 H2 h1 h2 h3 e => ?_⟩
  · have hq := hs F2 H2 h1 h2 h3
    obtain ⟨v, fq, e1, r1, m⟩ := r.at_ e
    have : fq = [] := by
      cases fq with
      | nil => rfl
      | cons x _ => exact absurd (m x List.mem_cons_self) (fun z => nomatch z)
    subst this
    refine ⟨⟨vs, v, hq, e1⟩, fun x H3 y => ?_⟩
    obtain ⟨rfl, y⟩ := y
    have q := y vs hq
    rw [e1] at q
    cases q
    exact ⟨F2, Ext.refl h2, r1.still h1⟩
  · exact ⟨vs, hs F2 H2 h1 h2 h3, by rw [r.len]; exact e⟩
theorem itq_ok {a : Addr} {o : Obj} {vs : List V} {ds : List D} {pr : List Addr} (hs : ∀ F2 H2 : Hp, (∀ a o, F a = some o → F2 a = some o) → (∀ a o, F2 a = some o → H2 a = some o) → (∀ a ∈ pr, ∀ o, H a = some o → H2 a = some o) → H2 a = some (DO a o)) (r : Reps K F H vs ds []) : ItOk K (Itq a o vs) pr F H ds := by
  refine ⟨fun i F2 H2 h1 h2 h3 d e => ?_, fun i F2 H2 h1 h2 h3 e => ?_⟩
  · have hq := hs F2 H2 h1 h2 h3
    obtain ⟨v, fq, e1, r1, m⟩ := r.at_ e
    have : fq = [] := by
      cases fq with
      | nil => rfl
      | cons x _ => exact absurd (m x List.mem_cons_self) (fun z => nomatch z)
    subst this
    refine ⟨⟨hq, (List.getElem?_eq_some_iff.mp e1).1⟩, fun x H3 y => ?_⟩
    obtain ⟨rfl, y⟩ := y
    rw [e1] at y
    cases y
    exact ⟨F2, Ext.refl h2, r1.still h1⟩
  · exact ⟨hs F2 H2 h1 h2 h3, by rw [r.len]; exact e⟩
theorem itt_ok {a : Addr} {vs : List V} {ds : List D} (t : SqT K F a vs) (r : Reps K F H vs ds []) : ItOk K (Itt K a) [] F H ds := by
  refine ⟨fun i F2 H2 h1 h2 h3 d e => ?_, fun i F2 H2 h1 h2 h3 e => ?_⟩
  · have hq := sqT_mono (sqT_mono t h1) h2
    obtain ⟨v, fq, e1, r1, m⟩ := r.at_ e
    have : fq = [] := by
      cases fq with
      | nil => rfl
      | cons x _ => exact absurd (m x List.mem_cons_self) (fun z => nomatch z)
    subst this
    refine ⟨⟨vs, v, hq, e1⟩, fun x H3 y => ?_⟩
    obtain ⟨rfl, y⟩ := y
    have q := y vs hq
    rw [e1] at q
    cases q
    exact ⟨F2, Ext.refl h2, r1.still h1⟩
  · exact ⟨vs, sqT_mono (sqT_mono t h1) h2, by rw [r.len]; exact e⟩
theorem its_ok {z : List Nat} (hz : asc z = true) : ItOk K (Its (SX.S z)) [] F H (z.map fun c => .str [c]) := by
  refine ⟨fun i F2 H2 h1 h2 h3 d e => ?_, fun i F2 H2 h1 h2 h3 e => ?_⟩
  · simp only [List.getElem?_map, Option.map_eq_some_iff] at e
    obtain ⟨c, e1, rfl⟩ := e
    have hi : i < z.length := (List.getElem?_eq_some_iff.mp e1).1
    have e2 : (SX.S z).cps[i]? = some c := by simpa using e1
    refine ⟨by show i < z.toArray.size; simpa using hi, fun x H3 y => ?_⟩
    obtain ⟨rfl, c', e3, rfl⟩ := y
    rw [e2] at e3
    cases e3
    exact ⟨F2, Ext.refl h2, .str [c] (by simp [asc, asc_mem.mp hz c (List.mem_of_getElem? e1)])⟩
  · show z.toArray.size ≤ i
    simpa using e
theorem rangeUp_get : ∀ (n : Nat) (lo : Int) (i : Nat) (d : D), (rangeUp lo n)[i]? = some d → i < n ∧ d = .int (lo + i)
  | 0, _, _, _, h => by simp [rangeUp] at h
  | n + 1, lo, 0, d, h => by simp [rangeUp] at h; subst h; exact ⟨by omega, by simp⟩
  | n + 1, lo, i + 1, d, h => by
    obtain ⟨h1, h2⟩ := rangeUp_get n (lo + 1) i d (by simpa [rangeUp] using h)
    refine ⟨by omega, ?_⟩
    rw [h2]
    congr 1
    omega
theorem rangeUp_len : ∀ (n : Nat) (lo : Int), (rangeUp lo n).length = n
  | 0, _ => rfl
  | n + 1, lo => by simp [rangeUp, rangeUp_len n]
theorem itr_ok {lo : Int} {n : Nat} : ItOk K (Itr lo n) [] F H (rangeUp lo n) := by
  refine ⟨fun i F2 H2 h1 h2 h3 d e => ?_, fun i F2 H2 h1 h2 h3 e => ?_⟩
  · obtain ⟨h, rfl⟩ := rangeUp_get n lo i d e
    refine ⟨h, fun x H3 y => ?_⟩
    obtain ⟨rfl, rfl⟩ := y
    exact ⟨F2, Ext.refl h2, .int _⟩
  · rw [rangeUp_len] at e
    exact e
end
section
variable {X : Cx} {tg : Expr}
def fOf (f : Env → R D) : Env → R (List D) := fun s => (f s).bind fun d s => match iterOf d with
    | some xs => if ownL xs then .bad else .ok xs s
    | none => .bad
theorem sr_of {e : Expr} {mv vw : List Nat} {f : Env → R D} (h : PE X e (tE X.kw mv vw f)) : PI X tg e (tR X.kw mv vw (fOf f)) := pi_imp (pi_or (pi_list h) (pi_or (pi_tup h) (pi_or (pi_str h) (pi_dct h)))) fun σ H Rw h => by
  obtain ⟨F, s, fps, R, h⟩ := h
  try dsimp only [fOf] at h
  cases e : f s with
  | exc x s' => rw [e] at h; exact h.elim
  | bad => rw [e] at h; exact h.elim
  | ok d s1 =>
    rw [e] at h
    simp only [bind_ok] at h
    cases d <;> (try (simp only [iterOf] at h; done))
    · rename_i z
      refine .inr (.inr (.inl ⟨F, s, fps, R, ?_⟩))
      rw [e]
      refine fun v H1 F1 fps1 fp R1 st1 rs => ?_
      obtain ⟨rfl, _, hz⟩ := rep_str rs.rep
      simp only [iterOf] at h
      by_cases hl : z.length ≤ SL
      · simp only [if_pos hl] at h
        have ho : ownL (z.map fun c => D.str [c]) = false := by
          have : ∀ l : List Nat, ownL (l.map fun c => D.str [c]) = false := by
            intro l
            induction l with
            | nil => rfl
            | cons c l ih => simp [ownL, D.own, ih]
          exact this z
        simp only [ho, Bool.false_eq_true, if_false] at h
        exact ⟨_, rfl, h (Its (SX.S z)) [] H1 F1 fps1 R1 st1 (its_ok hz) fun a ha => nomatch ha⟩
      · simp only [if_neg hl] at h
    · rename_i xs
      refine .inr (.inl ⟨F, s, fps, R, ?_⟩)
      rw [e]
      refine fun v H1 F1 fps1 fp R1 st1 rs => ?_
      simp only [iterOf] at h
      cases ho : ownL xs with
      | true => simp only [ho, if_true] at h
      | false =>
        simp only [ho, Bool.false_eq_true, if_false] at h
        obtain ⟨a, vs, rfl, t0, t1, p1⟩ := rep_tup R1.sub rs.rep
        have p1 := fps_nil p1 ho
        exact ⟨a, rfl, ⟨vs, t1⟩, h (Itt X.kw a) [] H1 F1 fps1 R1 st1 (itt_ok t0.t p1) fun a ha => nomatch ha⟩
    · rename_i o xs
      refine .inl ⟨F, s, fps, R, ?_⟩
      rw [e]
      refine fun v H1 F1 fps1 fp R1 st1 rs => ?_
      simp only [iterOf] at h
      cases ho : ownL xs with
      | true => simp only [ho, if_true] at h
      | false =>
        simp only [ho, Bool.false_eq_true, if_false] at h
        have fr := rs.fr
        cases rs.rep with
        | lstF t p =>
          exact ⟨_, rfl, ⟨_, sqL_mono t R1.sub⟩, h (Itl X.kw _) [] H1 F1 fps1 R1 st1 (itl_ok (fun F2 H2 h1 h2 _ => sqL_mono (sqL_mono t h1) h2) p) fun a ha => nomatch ha⟩
        | @lstO a vs _ fp0 t hf p hn =>
          have p1 := fps_nil p ho
          refine ⟨a, rfl, ⟨_, SqL.of t⟩, h (Itl X.kw a) [a] H1 F1 fps1 R1 st1 (itl_ok (fun F2 H2 _ _ h3 => SqL.of (h3 a List.mem_cons_self _ t)) p1) fun b hb => ?_⟩
          have : b = a := List.mem_singleton.mp hb
          subst this
          refine ⟨⟨_, t⟩, ?_⟩
          rcases fr b List.mem_cons_self with q | q
          · exact .inl q
          · exact .inr q.1
    · rename_i o kvs
      refine .inr (.inr (.inr ⟨F, s, fps, R, ?_⟩))
      rw [e]
      refine fun v H1 F1 fps1 fp R1 st1 rs => ?_
      simp only [iterOf] at h
      cases ho : ownL (dkeys kvs) with
      | true => simp only [ho, if_true] at h
      | false =>
        simp only [ho, Bool.false_eq_true, if_false] at h
        have fr := rs.fr
        cases rs.rep with
        | dctF t ok p hk hq =>
          obtain ⟨es, ep, e1, e2⟩ := ok.es
          exact ⟨_, _, es, ep, _, rfl, R1.sub _ _ t, ok.sm, ok.ex, e1, keys_vals (F := F) (H := H) (K := X.kw) e2, h (Itq _ _ _) [] H1 F1 fps1 R1 st1 (itq_ok (fun F2 H2 h1 h2 _ => h2 _ _ (h1 _ _ t)) (keys_reps p)) fun a ha => nomatch ha⟩
        | @dctO a o zs _ fp0 t hf ok p hk hq hn =>
          obtain ⟨es, ep, e1, e2⟩ := ok.es
          refine ⟨a, o, es, ep, _, rfl, t, ok.sm, ok.ex, e1, keys_vals (F := F) (H := H) (K := X.kw) e2, h (Itq a o _) [a] H1 F1 fps1 R1 st1 (itq_ok (fun F2 H2 _ _ h3 => h3 a List.mem_cons_self _ t) (keys_reps p)) fun b hb => ?_⟩
          have : b = a := List.mem_singleton.mp hb
          subst this
          refine ⟨⟨_, t⟩, ?_⟩
          rcases fr b List.mem_cons_self with q | q
          · exact .inl q
          · exact .inr q.1
/-- one written argument -/
theorem sa_1 {e : Expr} {mv vw : List Nat} {f : Env → R D} (h : PE X e (tE X.kw mv vw f)) (hs : starEach [e] X.env = [(false, eval e X.env)]) : PA X [e] (tCons (tE X.kw mv vw f) tNil) := pa_cons h pa_nil hs
def fRng (f : Env → R D) : Env → R (List D) := fun s => (f s).bind fun x s => R.of ((asI x).bind rng1) s
theorem sr_rng {a : Expr} {p pos : Pos} {mv vw : List Nat} {f : Env → R D} (hg : Gl X "range") (hm : X.mg "range" = none) (h : PE X a (tE X.kw mv vw f)) (hs : starEach [a] X.env = [(false, eval a X.env)]) : PI X tg (.Call (.Name "range" p) [a] [] pos) (tR X.kw mv vw (fRng f)) :=
  pi_imp (pi_range1 hg hm (sa_1 h hs) hs) fun σ H Rw h => by
  obtain ⟨F, s, fps, R, h⟩ := h
  refine ⟨F, s, fps, R, ?_⟩
  try dsimp only [fRng] at h
  cases e : f s with
  | exc x s' => rw [e] at h; exact h
  | bad => rw [e] at h; exact h
  | ok d s1 =>
    rw [e] at h
    simp only [bind_ok] at h
    refine fun v H1 F1 fps1 fp R1 st1 rs => ?_
    cases d <;> simp only [asI, Option.bind_none, of_none, Option.bind_some] at h
    rename_i j
    obtain ⟨rfl, _⟩ := rep_int rs.rep
    unfold rng1 at h
    by_cases hj : j < 4611686018427387904 ∧ -4611686018427387904 ≤ j
    · rw [if_pos hj] at h
      exact ⟨j, rfl, by omega, by omega, h (Itr 0 j.toNat) [] H1 F1 fps1 R1 st1 itr_ok fun a ha => nomatch ha⟩
    · rw [if_neg hj] at h; exact h.elim

/-! ### loops -/
def oFor (tg : T) (f : Env → R (List D)) (b : Env → O) : Env → O := fun s => (f s).O fun xs s => floop (fun x s => match assignT tg x s with
      | some s => b s
      | none => .bad) xs s
theorem tS_for {K : Kw} {mva vw mvb asb : List Nat} {fa : Env → R (List D)} {fb : Env → O} {tg : T} (hd : disj vw (mvb ++ tg.sl) = true) {D : Ends} {σ : L2.St} {H : Hp} (h : tS K (mva ++ (mvb ++ tg.sl)) (asb ++ tg.sl) (oFor tg fa fb) D σ H) :
    tFor (tR K mva vw fa) (gT K tg) (tS K mvb asb fb) D σ H := by
  obtain ⟨F, s, fps, R, h⟩ := h
  refine ⟨F, s, fps, R, ?_⟩
  try dsimp only [oFor, Z.R.O] at h
  cases e : fa s with
  | exc x s' => rw [e] at h; exact h
  | bad => rw [e] at h; exact h
  | ok xs s1 =>
    rw [e] at h
    try dsimp only at h
    refine fun J pr H1 F1 fps1 R1 st1 it hp => ?_
    refine ⟨fun i m σ2 H2 => m = xs.length - i ∧ i ≤ xs.length ∧ ∃ F2 s2 fps2, Rel K F2 H2 σ2 s2 fps2 ∧ Stp (mvb ++ tg.sl) F1 H1 s1 fps1 F2 H2 s2 fps2 ∧ Kp (asb ++ tg.sl) σ σ2 ∧
      Ends' K (mva ++ (mvb ++ tg.sl)) (asb ++ tg.sl) σ F H s fps D (floop (fun x s => match assignT tg x s with | some s => fb s | none => .bad) (xs.drop i) s2), ⟨xs.length, by simp, Nat.zero_le _, F1, s1, fps1, R1, .refl, .refl, h⟩, ?_⟩
    rintro i m σ2 H2 ⟨rfl, hi, F2, s2, fps2, R2, st2, k2, h2⟩
    have prot : ∀ a ∈ pr, ∀ o, H1 a = some o → H2 a = some o := fun a ha o e => by
      refine st2.h a o e fun j hj z => ?_
      rcases (hp a ha).2 with ⟨k, hk, q⟩ | q
      · exact R1.dis k j (fun e => disj_not hd hk (e ▸ hj)) a q z
      · exact q j z
    by_cases hlt : i < xs.length
    · have e1 : xs[i]? = some xs[i] := List.getElem?_eq_getElem hlt
      obtain ⟨hgo, hy⟩ := it.go i F2 H2 st2.f R2.sub prot _ e1
      rw [List.drop_eq_getElem_cons hlt] at h2
      refine .inr ⟨hgo, fun σ3 H3 => (xs.length - (i + 1) = xs.length - (i + 1) ∧ i + 1 ≤ xs.length ∧ ∃ F3 s3 fps3, Rel K F3 H3 σ3 s3 fps3 ∧ Stp (mvb ++ tg.sl) F1 H1 s1 fps1 F3 H3 s3 fps3 ∧ Kp (asb ++ tg.sl) σ σ3 ∧
        Ends' K (mva ++ (mvb ++ tg.sl)) (asb ++ tg.sl) σ F H s fps D (floop (fun x s => match assignT tg x s with | some s => fb s | none => .bad) (xs.drop (i + 1)) s3)), fun σ' H' hN => ⟨xs.length - (i + 1), by omega, hN⟩, fun x H3 y => ?_⟩
      obtain ⟨F3, x3, r3⟩ := hy x H3 y
      have R3 := R2.ext x3
      unfold floop at h2
      cases ea : assignT tg xs[i] s2 with
      | none => rw [ea] at h2; exact h2.elim
      | some s3 =>
        rw [ea] at h2
        refine tgt (fp := []) R3 r3 (fun a ha => nomatch ha) ea fun σ' fps' R' k A => ?_
        have st3 : Stp (mvb ++ tg.sl) F1 H1 s1 fps1 F3 H3 s2 fps2 := by
          have q := st2.trans (x3.stp (mv := []) (s := s2) (fps := fps2))
          rw [List.append_nil] at q
          exact q
        have st3' : Stp (mvb ++ tg.sl) F1 H1 s1 fps1 F3 H3 s3 fps' := (A.stp st3 fun a ha => nomatch ha).weak fun j hj => by
          rcases List.mem_append.mp hj with q | q
          · exact q
          · exact List.mem_append_right _ q
        have k3 : Kp (asb ++ tg.sl) σ σ' := (k2.trans k).weak fun j hj => by
          rcases List.mem_append.mp hj with q | q
          · exact q
          · exact List.mem_append_right _ q
        refine ⟨F3, s3, fps', R', ?_⟩
        try dsimp only at h2
        have full : ∀ {F4 H4 : Hp} {s4 : Env} {fps4 : Fps}, Stp mvb F3 H3 s3 fps' F4 H4 s4 fps4 → Stp (mva ++ (mvb ++ tg.sl)) F H s fps F4 H4 s4 fps4 := fun st4 => st1.trans ((st3'.trans st4).weak fun j hj => by
          rcases List.mem_append.mp hj with q | q
          · exact q
          · exact List.mem_append_left _ q)
        have inner : ∀ {F4 H4 : Hp} {s4 : Env} {fps4 : Fps}, Stp mvb F3 H3 s3 fps' F4 H4 s4 fps4 → Stp (mvb ++ tg.sl) F1 H1 s1 fps1 F4 H4 s4 fps4 := fun st4 => (st3'.trans st4).weak fun j hj => by
          rcases List.mem_append.mp hj with q | q
          · exact q
          · exact List.mem_append_left _ q
        have kk : ∀ {σ4 : L2.St}, Kp asb σ' σ4 → Kp (asb ++ tg.sl) σ σ4 := fun k4 => (k3.trans k4).weak fun j hj => by
          rcases List.mem_append.mp hj with q | q
          · exact q
          · exact List.mem_append_left _ q
        cases eb : fb s3 with
        | nxt s4 =>
          rw [eb] at h2
          exact fun σ4 H4 F4 fps4 R4 st4 k4 => ⟨rfl, hlt, F4, s4, fps4, R4, inner st4, kk k4, h2⟩
        | cnt s4 =>
          rw [eb] at h2
          exact fun σ4 H4 F4 fps4 R4 st4 k4 => ⟨rfl, hlt, F4, s4, fps4, R4, inner st4, kk k4, h2⟩
        | brk s4 =>
          rw [eb] at h2
          exact fun σ4 H4 F4 fps4 R4 st4 k4 => h2 σ4 H4 F4 fps4 R4 (full st4) (kk k4)
        | ret d s4 =>
          rw [eb] at h2
          refine fun v σ4 H4 F4 fps4 fp4 R4 st4 k4 rs => h2 v σ4 H4 F4 fps4 fp4 R4 (full st4) (kk k4) ?_
          exact res_weak ((rs.later st3').later st1) (fun j hj => by
            rcases List.mem_append.mp hj with q | q
            · exact List.mem_append_left _ q
            · rcases List.mem_append.mp q with q | q
              · exact List.mem_append_right _ q
              · exact List.mem_append_right _ (List.mem_append_left _ q)) fun _ z => z
        | exc x s4 => rw [eb] at h2; exact h2.elim
        | bad => rw [eb] at h2; exact h2.elim
    · have : i = xs.length := by omega
      subst this
      refine .inl ⟨it.stop _ F2 H2 st2.f R2.sub prot (Nat.le_refl _), ?_⟩
      rw [List.drop_length] at h2
      exact h2 σ2 H2 F2 fps2 R2 (st1.trans st2) k2
theorem ss_for {iter : Expr} {body : List Stmt} {pos : Pos} {mva vw mvb asb : List Nat} {fa : Env → R (List D)} {fb : Env → O} {t : T} (hp : PassesOwn (model X.prog X.w) X.A X.env X.xe) (hc : X.calm = true) (hi : PI X tg iter (tR X.kw mva vw fa)) (hg : PG X tg (gT X.kw t))
    (hb : PSs X body (tS X.kw mvb asb fb)) (hs : ∀ x, foldedSetIterable iter X.env x = pure x) (hd : disj vw (mvb ++ t.sl) = true) : PS X (.For tg iter body [] pos) (tS X.kw (mva ++ (mvb ++ t.sl)) (asb ++ t.sl) (oFor t fa fb)) :=
  ps_imp (ps_for hp hc hi hg hb hs) fun D σ H h => tS_for hd h
def oWh (c : Env → R D) (b : Env → O) : Env → O := fun s => wloop c b W s
theorem tS_while {K : Kw} {mvc mvb asb : List Nat} {fc : Env → R D} {fb : Env → O} {D : Ends} {σ : L2.St} {H : Hp} (h : tS K (mvc ++ mvb) asb (oWh fc fb) D σ H) : tWhile (tT K mvc fc) (tS K mvb asb fb) D σ H := by
  obtain ⟨F, s, fps, R, h⟩ := h
  unfold oWh at h
  have idem : ∀ {j : Nat} {a b : List Nat}, j ∈ (a ++ b) ++ (a ++ b) → j ∈ a ++ b := fun hj => (List.mem_append.mp hj).elim id id
  refine ⟨fun m σ2 H2 => ∃ F2 s2 fps2, Rel K F2 H2 σ2 s2 fps2 ∧ Stp (mvc ++ mvb) F H s fps F2 H2 s2 fps2 ∧ Kp asb σ σ2 ∧ Ends' K (mvc ++ mvb) asb σ F H s fps D (wloop fc fb m s2), ⟨W, F, s, fps, R, .refl, .refl, h⟩, ?_⟩
  rintro m σ2 H2 ⟨F2, s2, fps2, R2, st2, k2, h2⟩
  cases m with
  | zero => exact h2.elim
  | succ m =>
    refine ⟨F2, s2, fps2, R2, ?_⟩
    unfold wloop at h2
    cases e : fc s2 with
    | exc x s' => rw [e] at h2; exact h2.elim
    | bad => rw [e] at h2; exact h2.elim
    | ok d s3 =>
      rw [e] at h2
      try dsimp only at h2 ⊢
      cases eb : asB d with
      | none => rw [eb] at h2; exact h2.elim
      | some b =>
        rw [eb] at h2
        try dsimp only
        refine fun H3 F3 fps3 R3 st3 => ?_
        have st3' : Stp (mvc ++ mvb) F H s fps F3 H3 s3 fps3 := (st2.trans st3).weak fun j hj => by
          rcases List.mem_append.mp hj with q | q
          · exact q
          · exact List.mem_append_left _ q
        cases b with
        | false =>
          exact h2 σ2 H3 F3 fps3 R3 st3' k2
        | true =>
          refine ⟨fun σ4 H4 => ∃ F4 s4 fps4, Rel K F4 H4 σ4 s4 fps4 ∧ Stp (mvc ++ mvb) F H s fps F4 H4 s4 fps4 ∧ Kp asb σ σ4 ∧ Ends' K (mvc ++ mvb) asb σ F H s fps D (wloop fc fb m s4), fun σ4 H4 hN => ⟨m, Nat.lt_succ_self _, hN⟩, F3, s3, fps3, R3, ?_⟩
          try dsimp only at h2
          have full : ∀ {F4 H4 : Hp} {s4 : Env} {fps4 : Fps}, Stp mvb F3 H3 s3 fps3 F4 H4 s4 fps4 → Stp (mvc ++ mvb) F H s fps F4 H4 s4 fps4 := fun st4 => (st3'.trans st4).weak fun j hj => by
            rcases List.mem_append.mp hj with q | q
            · exact q
            · exact List.mem_append_right _ q
          have kk : ∀ {σ4 : L2.St}, Kp asb σ2 σ4 → Kp asb σ σ4 := fun k4 => (k2.trans k4).weak fun j hj => (List.mem_append.mp hj).elim id id
          cases ef : fb s3 with
          | nxt s4 =>
            rw [ef] at h2
            exact fun σ4 H4 F4 fps4 R4 st4 k4 => ⟨F4, s4, fps4, R4, full st4, kk k4, h2⟩
          | cnt s4 =>
            rw [ef] at h2
            exact fun σ4 H4 F4 fps4 R4 st4 k4 => ⟨F4, s4, fps4, R4, full st4, kk k4, h2⟩
          | brk s4 =>
            rw [ef] at h2
            exact fun σ4 H4 F4 fps4 R4 st4 k4 => h2 σ4 H4 F4 fps4 R4 (full st4) (kk k4)
          | ret d s4 =>
            rw [ef] at h2
            exact fun v σ4 H4 F4 fps4 fp4 R4 st4 k4 rs => h2 v σ4 H4 F4 fps4 fp4 R4 (full st4) (kk k4) (res_weak (rs.later st3') (fun j hj => by
              rcases List.mem_append.mp hj with q | q
              · exact q
              · exact List.mem_append_right _ q) fun _ z => z)
          | exc x s4 => rw [ef] at h2; exact h2.elim
          | bad => rw [ef] at h2; exact h2.elim
theorem ss_while {c : Expr} {body : List Stmt} {pos : Pos} {mvc mvb asb : List Nat} {fc : Env → R D} {fb : Env → O} (hp : PassesOwn (model X.prog X.w) X.A X.env X.xe) (hc : PT X c (tT X.kw mvc fc)) (hb : PSs X body (tS X.kw mvb asb fb)) :
    PS X (.While c body [] pos) (tS X.kw (mvc ++ mvb) asb (oWh fc fb)) := ps_imp (ps_while hp hc hb) fun D σ H h => tS_while h
end
end Z

set_option Elab.async false
set_option linter.all false
set_option maxRecDepth 100000
namespace Z
open PySem PySem.Spec PyProof.Rows L2

/-! ### comprehensions -/
def wf (own : List Nat) (fps : Fps) : Fps := fun j => if j ∈ own then [] else fps j
theorem wf_in {own : List Nat} {fps : Fps} {j : Nat} (h : j ∈ own) : wf own fps j = [] := if_pos h
theorem wf_out {own : List Nat} {fps : Fps} {j : Nat} (h : j ∉ own) : wf own fps j = fps j := if_neg h
theorem wipe_len : ∀ (s : Env) (own : List Nat), (Z.wipe s own).length = s.length
  | _, [] => rfl
  | s, i :: own => by show ((Z.wipe s own).set i none).length = _; rw [List.length_set, wipe_len s own]
theorem get_ge {s : Env} {j : Nat} (h : s.length ≤ j) : get s j = none := by
  unfold get
  rw [List.getD_eq_getElem?_getD, List.getElem?_eq_none h]
  rfl
theorem get_wipe : ∀ (s : Env) (own : List Nat) (j : Nat), get (Z.wipe s own) j = if j ∈ own then none else get s j
  | _, [], j => by simp [Z.wipe]
  | s, i :: own, j => by
    show get ((Z.wipe s own).set i none) j = _
    by_cases hi : i < (Z.wipe s own).length
    · rw [get_set hi, get_wipe s own j]
      by_cases h : j = i
      · simp [h]
      · by_cases h2 : j ∈ own
        · simp [h, h2]
        · simp [h, h2]
    · have e : (Z.wipe s own).set i none = Z.wipe s own := List.set_eq_of_length_le (by omega)
      rw [e, get_wipe s own j]
      by_cases h : j = i
      · subst h
        rw [wipe_len] at hi
        simp [get_ge (show s.length ≤ j by omega)]
      · by_cases h2 : j ∈ own
        · simp [h2]
        · simp [h, h2]
theorem restore_len : ∀ (o s : Env) (own : List Nat), (restore o s own).length = s.length
  | _, _, [] => rfl
  | o, s, i :: own => by show ((restore o s own).set i _).length = _; rw [List.length_set, restore_len o s own]
theorem get_restore {o s : Env} (hl : o.length = s.length) : ∀ (own : List Nat) (j : Nat), get (restore o s own) j = if j ∈ own then get o j else get s j
  | [], j => by simp [restore]
  | i :: own, j => by
    show get ((restore o s own).set i (get o i)) j = _
    by_cases hi : i < (restore o s own).length
    · rw [get_set hi, get_restore hl own j]
      by_cases h : j = i
      · simp [h]
      · by_cases h2 : j ∈ own
        · simp [h, h2]
        · simp [h, h2]
    · have e : (restore o s own).set i (get o i) = restore o s own := List.set_eq_of_length_le (by omega)
      rw [e, get_restore hl own j]
      by_cases h : j = i
      · subst h
        rw [restore_len] at hi
        simp [get_ge (show s.length ≤ j by omega), get_ge (show o.length ≤ j by omega)]
      · by_cases h2 : j ∈ own
        · simp [h2]
        · simp [h, h2]
section
variable {K : Kw} {F H F1 H1 : Hp} {σ : L2.St} {s s1 : Env} {fps fps1 : Fps} {own M : List Nat}
theorem Rel.wiped (R : Rel K F H σ s fps) (own : List Nat) : Rel K F H (L2.wipe σ own) (Z.wipe s own) (wf own fps) := by
  refine ⟨R.sub, by rw [wipe_len, L2.wipe_length]; exact R.len, fun j d e => ?_, fun j e => ?_, fun i j hij a ha => ?_⟩
  · rw [get_wipe] at e
    by_cases h : j ∈ own
    · rw [if_pos h] at e; cases e
    · rw [if_neg h] at e
      obtain ⟨v, h1, h2⟩ := R.rep j d e
      exact ⟨v, by rw [L2.wipe_out h]; exact h1, by rw [wf_out h]; exact h2⟩
  · rw [get_wipe] at e
    by_cases h : j ∈ own
    · exact wf_in h
    · rw [if_neg h] at e
      rw [wf_out h]; exact R.nil j e
  · by_cases h : i ∈ own
    · rw [wf_in h] at ha; cases ha
    · rw [wf_out h] at ha
      by_cases h2 : j ∈ own
      · rw [wf_in h2]; exact fun z => nomatch z
      · rw [wf_out h2]; exact R.dis i j hij a ha
def minus (M own : List Nat) : List Nat := M.filter fun j => !own.contains j
theorem mem_minus {j : Nat} : j ∈ minus M own ↔ j ∈ M ∧ j ∉ own := by simp [minus]
theorem Stp.wiped (st : Stp M F H (Z.wipe s own) (wf own fps) F1 H1 s1 fps1) : Stp (minus M own) F H (Z.wipe s own) (wf own fps) F1 H1 (Z.wipe s1 own) (wf own fps1) := by
  have back : ∀ {a : Addr} {j : Nat}, j ∈ M → a ∈ wf own fps j → ∃ k ∈ minus M own, a ∈ wf own fps k := fun {a j} hj z => by
    by_cases h : j ∈ own
    · rw [wf_in h] at z; cases z
    · exact ⟨j, mem_minus.mpr ⟨hj, h⟩, z⟩
  refine ⟨st.f, fun a o e k => st.h a o e fun j hj z => ?_, fun a e => ?_, fun j hj a ha => ?_, fun j hj => ?_, st.d⟩
  · obtain ⟨i, hi, q⟩ := back hj z
    exact k i hi q
  · rcases st.nf a e with q | q | ⟨j, hj, q⟩
    · exact .inl q
    · exact .inr (.inl q)
    · exact .inr (.inr (back hj q))
  · obtain ⟨h1, h2⟩ := mem_minus.mp hj
    rw [wf_out h2] at ha
    rcases st.u j h1 a ha with q | ⟨k, hk, q⟩
    · exact .inl q
    · exact .inr (back hk q)
  · by_cases h : j ∈ own
    · rw [get_wipe, get_wipe, if_pos h, if_pos h, wf_in h, wf_in h]
      exact ⟨rfl, rfl⟩
    · have hm : j ∉ M := fun z => hj (mem_minus.mpr ⟨z, h⟩)
      have q := st.o j hm
      refine ⟨?_, by rw [wf_out h]; exact q.2⟩
      rw [get_wipe, if_neg h]
      exact q.1
theorem assignT_len : ∀ {tg : T} {d : D} {s s' : Env}, assignT tg d s = some s' → s'.length = s.length := by
  intro tg d s s' h
  have key : ∀ (l : List (Nat × D)) (s : Env), (l.foldl (fun s p => s.set p.1 (some p.2)) s).length = s.length := by
    intro l
    induction l with
    | nil => intro s; rfl
    | cons p l ih => intro s; rw [List.foldl_cons, ih, List.length_set]
  cases tg with
  | nm i =>
    simp only [assignT, Option.some.injEq] at h
    rw [← h, List.length_set]
  | tp is =>
    cases d <;> simp only [assignT, reduceCtorEq] at h
    split at h
    · cases h
      exact key _ _
    · cases h
theorem wipe_kp {σ σ2 : L2.St} {is own : List Nat} (k : Kp is (L2.wipe σ own) σ2) (hl : σ2.length = σ.length) (hs : ∀ i ∈ is, i ∈ own) : L2.wipe σ2 own = L2.wipe σ own := by
  refine List.ext_getElem? fun i => ?_
  by_cases h : i ∈ own
  · have q : ∀ τ : L2.St, i < τ.length → (L2.wipe τ own)[i]? = some none := by
      intro τ hi
      have hlen : i < (L2.wipe τ own).length := by rw [L2.wipe_length]; exact hi
      rw [List.getElem?_eq_getElem hlen]
      cases e : (L2.wipe τ own)[i] with
      | none => rfl
      | some x =>
        have e2 : (L2.wipe τ own)[i]? = some (some x) := by rw [List.getElem?_eq_getElem hlen, e]
        exact absurd h (L2.wipe_some e2).2
    by_cases hi : i < σ.length
    · rw [q σ2 (by omega), q σ hi]
    · rw [List.getElem?_eq_none (by rw [L2.wipe_length]; omega), List.getElem?_eq_none (by rw [L2.wipe_length]; omega)]
  · rw [L2.wipe_out h, ← k i fun z => h (hs i z)]
end
def fBody (tg : T) (own : List Nat) (fc fe : Env → R D) : D → Env → R (Option D) := fun x s => match assignT tg x (Z.wipe s own) with
      | none => .bad
      | some s => (fc s).bind fun b s => match asB b with
        | some true => (fe s).bind fun y s => .ok (some y) s
        | some false => .ok none s
        | none => .bad
theorem fBody_none {tg : T} {own : List Nat} {fc fe : Env → R D} {x : D} {s : Env} (h : assignT tg x (Z.wipe s own) = none) : fBody tg own fc fe x s = .bad := by unfold fBody; rw [h]
theorem fBody_some {tg : T} {own : List Nat} {fc fe : Env → R D} {x : D} {s s4 : Env} (h : assignT tg x (Z.wipe s own) = some s4) : fBody tg own fc fe x s = (fc s4).bind fun b s => match asB b with
        | some true => (fe s).bind fun y s => .ok (some y) s
        | some false => .ok none s
        | none => .bad := by unfold fBody; rw [h]
def fComp (tg : T) (own : List Nat) (fs : Env → R (List D)) (fc fe : Env → R D) : Env → R D := fun s => (fs s).bind fun xs s1 => if SL < xs.length then .bad else (compL (fBody tg own fc fe) xs s1).bind fun ys s2 => .ok (.lst true ys) (restore s1 s2 own)
theorem tE_comp {K : Kw} {mvs vws mvc mve : List Nat} {fs : Env → R (List D)} {fc fe : Env → R D} {tg : T} {own : List Nat} (hd : disj vws (minus (tg.sl ++ mvc ++ mve) own) = true) (ho : ∀ i ∈ tg.sl, i ∈ own) {σ : L2.St} {H : Hp} {Q : VK}
    (h : tE K (mvs ++ minus (tg.sl ++ mvc ++ mve) own) [] (fComp tg own fs fc fe) σ H Q) : tLc (tR K mvs vws fs) (gT K tg) (tT K mvc fc) (tE K mve [] fe) own σ H Q := by
  obtain ⟨F, s, fps, R, h⟩ := h
  refine ⟨F, s, fps, R, ?_⟩
  try dsimp only [fComp] at h
  cases e : fs s with
  | exc x s' => rw [e] at h; exact h
  | bad => rw [e] at h; exact h
  | ok xs s1 =>
    rw [e] at h
    simp only [bind_ok] at h
    by_cases hSL : SL < xs.length
    · rw [if_pos hSL] at h; exact h.elim
    rw [if_neg hSL] at h
    refine fun J pr H1 F1 fps1 R1 st1 it hp => fun Dd hDd => ?_
    have hFD : F1 Dd = none := by
      cases q : F1 Dd with
      | none => rfl
      | some o => rw [R1.sub _ _ q] at hDd; cases hDd
    have x0 := Ext.own (o := .lst []) R1.sub hDd
    have Rw0 := (R1.wiped own).ext x0
    refine ⟨fun i m H2 => m = xs.length - i ∧ i ≤ xs.length ∧ ∃ F2 s2 fps2 ys acc fq, Rel K F2 H2 (L2.wipe σ own) (Z.wipe s2 own) (wf own fps2) ∧ s2.length = s1.length ∧ Stp (minus (tg.sl ++ mvc ++ mve) own) F1 H1 (Z.wipe s1 own) (wf own fps1) F2 H2 (Z.wipe s2 own) (wf own fps2) ∧
      H2 Dd = some (.lst acc) ∧ F2 Dd = none ∧ (∀ j, Dd ∉ wf own fps2 j) ∧ Dd ∉ fq ∧ Reps K F2 H2 acc ys fq ∧ (∀ a ∈ fq, (∀ j, a ∉ wf own fps2 j) ∧ (H1 a = none ∨ ∃ j ∈ minus (tg.sl ++ mvc ++ mve) own, a ∈ wf own fps1 j)) ∧ ys.length ≤ i ∧
      match compL (fBody tg own fc fe) (xs.drop i) s2 with
      | .ok zs s3 => ∀ v H' F' fps' fp, Rel K F' H' σ (restore s1 s3 own) fps' → Stp (mvs ++ minus (tg.sl ++ mvc ++ mve) own) F H s fps F' H' (restore s1 s3 own) fps' → Res K (mvs ++ minus (tg.sl ++ mvc ++ mve) own) [] H fps F' H' fps' v (.lst true (ys ++ zs)) fp → Q v H'
      | _ => False, ⟨xs.length, by simp, Nat.zero_le _, F1, s1, fps1, [], [], [], Rw0, rfl, x0.stp, upd_same, hFD, fun j z => ?_, fun z => (nomatch z), .nil, fun a z => (nomatch z), Nat.le_refl _, ?_⟩, ?_⟩
    · by_cases hj : j ∈ own
      · rw [wf_in hj] at z; cases z
      · rw [wf_out hj] at z
        obtain ⟨_, o, ho, _⟩ := R1.there z
        rw [hDd] at ho; cases ho
    · rw [List.drop_zero]
      cases ec : compL (fBody tg own fc fe) xs s1 with
      | exc x s' => rw [ec] at h; exact h
      | bad => rw [ec] at h; exact h
      | ok zs s3 =>
        rw [ec] at h
        simp only [bind_ok] at h
        simpa using h
    rintro i m H2 ⟨rfl, hi, F2, s2, fps2, ys, acc, fq, R2, l2, st2, hacc, hFD2, hDf, hDq, ra, hfq, hyl, h2⟩
    have prot : ∀ a ∈ pr, ∀ o, H1 a = some o → H2 a = some o := fun a ha o e => by
      refine st2.h a o e fun j hj z => ?_
      obtain ⟨_, hjo⟩ := mem_minus.mp hj
      rw [wf_out hjo] at z
      rcases (hp a ha).2 with ⟨k, hk, q⟩ | q
      · exact R1.dis k j (fun e => disj_not hd hk (e ▸ hj)) a q z
      · exact q j z
    by_cases hlt : i < xs.length
    · have e1 : xs[i]? = some xs[i] := List.getElem?_eq_getElem hlt
      obtain ⟨hgo, hy⟩ := it.go i F2 H2 st2.f R2.sub prot _ e1
      rw [List.drop_eq_getElem_cons hlt] at h2
      unfold compL at h2
      refine .inr ⟨hgo, fun H3 => (i + 1 ≤ xs.length ∧ ∃ F3 s3 fps3 ys acc fq, Rel K F3 H3 (L2.wipe σ own) (Z.wipe s3 own) (wf own fps3) ∧ s3.length = s1.length ∧ Stp (minus (tg.sl ++ mvc ++ mve) own) F1 H1 (Z.wipe s1 own) (wf own fps1) F3 H3 (Z.wipe s3 own) (wf own fps3) ∧
        H3 Dd = some (.lst acc) ∧ F3 Dd = none ∧ (∀ j, Dd ∉ wf own fps3 j) ∧ Dd ∉ fq ∧ Reps K F3 H3 acc ys fq ∧ (∀ a ∈ fq, (∀ j, a ∉ wf own fps3 j) ∧ (H1 a = none ∨ ∃ j ∈ minus (tg.sl ++ mvc ++ mve) own, a ∈ wf own fps1 j)) ∧ ys.length ≤ i + 1 ∧
        match compL (fBody tg own fc fe) (xs.drop (i + 1)) s3 with
        | .ok zs s3 => ∀ v H' F' fps' fp, Rel K F' H' σ (restore s1 s3 own) fps' → Stp (mvs ++ minus (tg.sl ++ mvc ++ mve) own) F H s fps F' H' (restore s1 s3 own) fps' → Res K (mvs ++ minus (tg.sl ++ mvc ++ mve) own) [] H fps F' H' fps' v (.lst true (ys ++ zs)) fp → Q v H'
        | _ => False), fun H' hN => ⟨xs.length - (i + 1), by omega, rfl, hN⟩, fun x H3 y => ?_⟩
      obtain ⟨F3, x3, r3⟩ := hy x H3 y
      have R3 := R2.ext x3
      cases ea : assignT tg xs[i] (Z.wipe s2 own) with
      | none => rw [fBody_none ea] at h2; exact h2.elim
      | some s4 =>
        rw [fBody_some ea] at h2
        refine tgt (fp := []) R3 r3 (fun a ha => nomatch ha) ea fun σ' fps4 R4 k4 A => ?_
        have l4 : s4.length = s1.length := by rw [assignT_len ea, wipe_len, l2]
        have hσ : σ'.length = σ.length := by rw [← R4.len, l4, ← R1.len]
        refine ⟨wipe_kp k4 hσ ho, ?_⟩
        have st3 : Stp (minus (tg.sl ++ mvc ++ mve) own) F1 H1 (Z.wipe s1 own) (wf own fps1) F3 H3 (Z.wipe s2 own) (wf own fps2) := by
          have q := st2.trans (x3.stp (mv := []) (s := Z.wipe s2 own) (fps := wf own fps2))
          rw [List.append_nil] at q
          exact q
        have st4 : Stp (minus (tg.sl ++ mvc ++ mve) own ++ tg.sl) F1 H1 (Z.wipe s1 own) (wf own fps1) F3 H3 s4 fps4 := A.stp st3 fun a ha => nomatch ha
        -- the list so far stands through what follows
        have keepA : ∀ {mv : List Nat} {F5 H5 : Hp} {s5 : Env} {fps5 : Fps}, Stp mv F3 H3 s4 fps4 F5 H5 s5 fps5 → Rel K F5 H5 σ' s5 fps5 → H5 Dd = some (.lst acc) ∧ F5 Dd = none ∧ (∀ j, Dd ∉ fps5 j) ∧ Reps K F5 H5 acc ys fq ∧ (∀ a ∈ fq, (∀ j, a ∉ fps5 j)) := by
          intro mv F5 H5 s5 fps5 st5 R5
          have out : ∀ a : Addr, (∀ j, a ∉ wf own fps2 j) → ∀ j, a ∉ fps4 j := fun a ha j z => by
            by_cases hj : j ∈ tg.sl
            · rcases A.i j hj a z with q | q
              · cases q
              · exact ha j q
            · rw [(A.o j hj).2] at z
              exact ha j z
          have out5 : ∀ (a : Addr) (o : HO), H3 a = some o → (∀ j, a ∉ fps4 j) → ∀ j, a ∉ fps5 j := fun a o ho ha j z => by
            rcases st5.back z with q | ⟨k, _, q⟩ | ⟨_, q⟩
            · rw [ho] at q; cases q
            · exact ha k q
            · exact ha j q
          have hD3 := x3.h _ _ hacc
          have d4 := out Dd hDf
          have hD5 := st5.h _ _ hD3 fun j _ => d4 j
          have f5 : ∀ (a : Addr) (o : HO), H3 a = some o → F3 a = none → (∀ j, a ∉ fps4 j) → F5 a = none := fun a o ho hf ha => by
            cases q : F5 a with
            | none => rfl
            | some u =>
              rcases st5.nf a (by rw [q]; exact Option.some_ne_none _) with w | w | ⟨j, _, w⟩
              · exact absurd hf w
              · rw [ho] at w; cases w
              · exact absurd w (ha j)
          have hF3D : F3 Dd = none := (x3.keep ⟨hFD2, _, hacc, trivial⟩).2
          have ra3 := ra.ext x3
          refine ⟨hD5, f5 Dd _ hD3 hF3D d4, out5 Dd _ hD3 d4, ra3.mono st5.f fun a ha => ?_, fun a ha => ?_⟩
          · obtain ⟨q1, o, q2, _⟩ := ra3.own a ha
            have q3 := out a (hfq a ha).1
            exact ⟨fun o e => st5.h a o e fun j _ => q3 j, f5 a o q2 q1 q3⟩
          · obtain ⟨q1, o, q2, _⟩ := ra3.own a ha
            exact out5 a o q2 (out a (hfq a ha).1)
        have toI : ∀ {mv : List Nat} {F5 H5 : Hp} {s5 : Env} {fps5 : Fps}, (∀ j ∈ mv, j ∈ mvc ++ mve) → Stp mv F3 H3 s4 fps4 F5 H5 s5 fps5 → Stp (minus (tg.sl ++ mvc ++ mve) own) F1 H1 (Z.wipe s1 own) (wf own fps1) F5 H5 (Z.wipe s5 own) (wf own fps5) := by
          intro mv F5 H5 s5 fps5 hm st5
          refine ((st4.trans st5).wiped).weak fun j hj => ?_
          obtain ⟨q1, q2⟩ := mem_minus.mp hj
          refine mem_minus.mpr ⟨?_, q2⟩
          rcases List.mem_append.mp q1 with q | q
          · rcases List.mem_append.mp q with q | q
            · exact (mem_minus.mp q).1
            · exact List.mem_append_left _ (List.mem_append_left _ q)
          · rcases List.mem_append.mp (hm j q) with q | q
            · exact List.mem_append_left _ (List.mem_append_right _ q)
            · exact List.mem_append_right _ q
        have wout : ∀ {a : Addr} {fps5 : Fps}, (∀ j, a ∉ fps5 j) → ∀ j, a ∉ wf own fps5 j := fun {a fps5} ha j z => by
          by_cases hj : j ∈ own
          · rw [wf_in hj] at z; cases z
          · rw [wf_out hj] at z; exact ha j z
        have wk : ∀ {τ : L2.St}, L2.wipe σ' own = L2.wipe σ own := wipe_kp k4 hσ ho
        refine ⟨F3, s4, fps4, R4, ?_⟩
        cases ec : fc s4 with
        | exc x s' => rw [ec] at h2; exact h2.elim
        | bad => rw [ec] at h2; exact h2.elim
        | ok db s5 =>
          rw [ec] at h2
          simp only [bind_ok] at h2
          try dsimp only
          cases eb : asB db with
          | none => rw [eb] at h2; exact h2.elim
          | some b =>
            rw [eb] at h2
            try dsimp only
            refine fun H5 F5 fps5 R5 st5 => ?_
            have l5 : s5.length = s1.length := by rw [R5.len, hσ, R1.len]
            cases b with
            | false =>
              simp only [bind_ok, Option.toList_none, List.nil_append] at h2
              obtain ⟨k1, k2, k3, k5, k6⟩ := keepA st5 R5
              show i + 1 ≤ xs.length ∧ _
              refine ⟨hlt, F5, s5, fps5, ys, acc, fq, ?_, l5, toI (fun j hj => List.mem_append_left _ hj) st5, k1, k2, wout k3, hDq, k5, fun a ha => ⟨wout (k6 a ha), (hfq a ha).2⟩, by omega, ?_⟩
              · have q := R5.wiped own
                rw [wk (τ := σ)] at q
                exact q
              · cases ec2 : compL (fBody tg own fc fe) (xs.drop (i + 1)) s5 with
                | exc x s' => rw [ec2] at h2; exact h2.elim
                | bad => rw [ec2] at h2; exact h2.elim
                | ok zs s7 =>
                  rw [ec2] at h2
                  exact h2
            | true =>
              try dsimp only at h2
              show tE K mve [] fe σ' H5 _
              refine ⟨F5, s5, fps5, R5, ?_⟩
              cases ee : fe s5 with
              | exc x s' => rw [ee] at h2; exact h2.elim
              | bad => rw [ee] at h2; exact h2.elim
              | ok dy s6 =>
                rw [ee] at h2
                simp only [bind_ok, Option.toList_some] at h2
                refine fun yv H6 F6 fps6 fp6 R6 st6 rs6 => ?_
                have st56 := st5.trans st6
                obtain ⟨k1, k2, k3, k5, k6⟩ := keepA st56 R6
                have hal : acc.length = ys.length := k5.len
                refine ⟨acc, k1, by rw [sl_eq]; omega, ?_⟩
                have l6 : s6.length = s1.length := by rw [R6.len, hσ, R1.len]
                have frs : ∀ a ∈ fp6, (∀ j, a ∉ fps6 j) ∧ (H5 a = none ∨ ∃ j ∈ mve, a ∈ fps5 j) := fun a ha => by
                  rcases rs6.fr a ha with ⟨j, hj, _⟩ | q
                  · cases hj
                  · exact q
                have hDp : Dd ∉ fp6 := fun z => by
                  obtain ⟨k1', _, k3', _⟩ := keepA st5 R5
                  rcases (frs Dd z).2 with q | ⟨j, _, q⟩
                  · rw [k1'] at q; cases q
                  · exact k3' j q
                have hpq : ∀ a ∈ fq, a ∉ fp6 := fun a ha z => by
                  obtain ⟨_, _, _, k5', k6'⟩ := keepA st5 R5
                  rcases (frs a z).2 with q | ⟨j, _, q⟩
                  · obtain ⟨_, o, q2, _⟩ := k5'.own a ha
                    rw [q2] at q; cases q
                  · exact k6' a ha j q
                -- the item is appended
                have hu : ∀ b : Addr, b ≠ Dd → ∀ o, H6 b = some o → (upd H6 Dd (.lst (acc ++ [yv]))) b = some o := fun b hb o e => by rw [upd_ne hb]; exact e
                have R7 : Rel K F6 (upd H6 Dd (.lst (acc ++ [yv]))) σ' s6 fps6 := ⟨fun a o e => hu a (fun z => by rw [z, k2] at e; cases e) o (R6.sub a o e), R6.len, fun j d e => by
                  obtain ⟨w, w1, w2⟩ := R6.rep j d e
                  exact ⟨w, w1, w2.mono (fun _ _ e => e) fun a ha => ⟨hu a fun z => k3 j (z ▸ ha), (w2.own a ha).1⟩⟩, R6.nil, R6.dis⟩
                have st7 : Stp (mvc ++ mve) F3 H3 s4 fps4 F6 (upd H6 Dd (.lst (acc ++ [yv]))) s6 fps6 → False → True := fun _ _ => trivial
                have stI := toI (fun j hj => hj) st56
                have stI7 : Stp (minus (tg.sl ++ mvc ++ mve) own) F1 H1 (Z.wipe s1 own) (wf own fps1) F6 (upd H6 Dd (.lst (acc ++ [yv]))) (Z.wipe s6 own) (wf own fps6) := ⟨stI.f, fun a o e k => hu a (fun z => by rw [z, hDd] at e; cases e) o (stI.h a o e k), stI.nf, stI.u, stI.o, fun a e => by
                  by_cases hb : a = Dd
                  · subst hb; rw [upd_same] at e; cases e
                  · rw [upd_ne hb] at e; exact stI.d a e⟩
                show i + 1 ≤ xs.length ∧ _
                refine ⟨hlt, F6, s6, fps6, ys ++ [dy], acc ++ [yv], fq ++ fp6, ?_, l6, stI7, upd_same, k2, wout k3, fun z => ?_, ?_, fun a ha => ?_, by rw [List.length_append, List.length_singleton]; omega, ?_⟩
                · have q := R7.wiped own
                  rw [wk (τ := σ)] at q
                  exact q
                · rcases List.mem_append.mp z with z | z
                  · exact hDq z
                  · exact hDp z
                · have q1 : Reps K F6 (upd H6 Dd (.lst (acc ++ [yv]))) acc ys fq := k5.mono (fun _ _ e => e) fun a ha => ⟨hu a fun z => hDq (z ▸ ha), (k5.own a ha).1⟩
                  have q2 : Rep K F6 (upd H6 Dd (.lst (acc ++ [yv]))) yv dy fp6 := rs6.rep.mono (fun _ _ e => e) fun a ha => ⟨hu a fun z => hDp (z ▸ ha), (rs6.rep.own a ha).1⟩
                  have q3 : Reps K F6 (upd H6 Dd (.lst (acc ++ [yv]))) [yv] [dy] fp6 := by
                    have := Reps.cons (fq := []) q2 .nil fun a _ z => nomatch z
                    rwa [List.append_nil] at this
                  exact q1.app q3 hpq
                · rcases List.mem_append.mp ha with z | z
                  · exact ⟨wout (k6 a z), (hfq a z).2⟩
                  · refine ⟨wout (frs a z).1, ?_⟩
                    have none1 : ∀ b : Addr, H5 b = none → H1 b = none := fun b e => (st4.trans st5).d b e
                    rcases (frs a z).2 with q | ⟨j, hj, q⟩
                    · exact .inl (none1 a q)
                    · rcases (st4.trans st5).back q with w | ⟨k, hk, w⟩ | ⟨hn, w⟩
                      · exact .inl w
                      · refine .inr ?_
                        by_cases hko : k ∈ own
                        · rw [wf_in hko] at w; cases w
                        · refine ⟨k, mem_minus.mpr ⟨?_, hko⟩, w⟩
                          rcases List.mem_append.mp hk with hk | hk
                          · rcases List.mem_append.mp hk with hk | hk
                            · exact (mem_minus.mp hk).1
                            · exact List.mem_append_left _ (List.mem_append_left _ hk)
                          · exact List.mem_append_left _ (List.mem_append_right _ hk)
                      · refine .inr ?_
                        by_cases hko : j ∈ own
                        · rw [wf_in hko] at w; cases w
                        · exact ⟨j, mem_minus.mpr ⟨List.mem_append_right _ hj, hko⟩, w⟩
                · cases ec2 : compL (fBody tg own fc fe) (xs.drop (i + 1)) s6 with
                  | exc x s' => rw [ec2] at h2; exact h2.elim
                  | bad => rw [ec2] at h2; exact h2.elim
                  | ok zs s7 =>
                    rw [ec2] at h2
                    simpa using h2
    · have : i = xs.length := by omega
      subst this
      refine .inl ⟨it.stop _ F2 H2 st2.f R2.sub prot (Nat.le_refl _), ?_⟩
      rw [List.drop_length] at h2
      unfold compL at h2
      try dsimp only at h2
      rw [List.append_nil] at h2
      have ll : s1.length = s2.length := l2.symm
      have old : ∀ (j : Nat), j ∈ own → ∀ a ∈ fps1 j, (∀ o, H1 a = some o → H2 a = some o) ∧ F2 a = none ∧ ∀ k, a ∉ wf own fps2 k := fun j hj a ha => by
        have nin : ∀ k, a ∉ wf own fps1 k := fun k z => by
          by_cases hk : k ∈ own
          · rw [wf_in hk] at z; cases z
          · rw [wf_out hk] at z
            exact R1.dis j k (fun e => hk (e ▸ hj)) a ha z
        obtain ⟨q1, o, q2, _⟩ := R1.there ha
        refine ⟨fun o e => st2.h a o e fun k _ => nin k, ?_, fun k z => ?_⟩
        · cases q : F2 a with
          | none => rfl
          | some u =>
            rcases st2.nf a (by rw [q]; exact Option.some_ne_none _) with w | w | ⟨k, _, w⟩
            · exact absurd q1 w
            · rw [q2] at w; cases w
            · exact absurd w (nin k)
        · rcases st2.back z with w | ⟨k', _, w⟩ | ⟨_, w⟩
          · rw [q2] at w; cases w
          · exact nin k' w
          · exact nin k w
      refine h2 (.ref Dd) H2 F2 (fun j => if j ∈ own then fps1 j else wf own fps2 j) (Dd :: fq) ⟨R2.sub, ?_, fun j d e => ?_, fun j e => ?_, fun j k hjk a ha => ?_⟩ ⟨fun a o e => st2.f a o (st1.f a o e), fun a o e k => ?_, fun a e => ?_, fun j hj a ha => ?_, fun j hj => ?_, fun a e => st1.d a (st2.d a e)⟩ ⟨.lstO hacc hFD2 ra hDq, fun a ha => .inr ?_⟩
      · rw [restore_len, ← ll]; exact R1.len
      · rw [get_restore ll] at e
        by_cases hj : j ∈ own
        · rw [if_pos hj] at e
          obtain ⟨v, w1, w2⟩ := R1.rep j d e
          refine ⟨v, w1, ?_⟩
          simp only [if_pos hj]
          exact w2.mono st2.f fun a ha => ⟨(old j hj a ha).1, (old j hj a ha).2.1⟩
        · rw [if_neg hj] at e
          obtain ⟨v, w1, w2⟩ := R2.rep j d (by rw [get_wipe, if_neg hj]; exact e)
          rw [L2.wipe_out hj] at w1
          refine ⟨v, w1, ?_⟩
          simp only [if_neg hj]
          exact w2
      · rw [get_restore ll] at e
        by_cases hj : j ∈ own
        · rw [if_pos hj] at e
          simp only [if_pos hj]
          exact R1.nil j e
        · rw [if_neg hj] at e
          simp only [if_neg hj]
          exact R2.nil j (by rw [get_wipe, if_neg hj]; exact e)
      · by_cases hj : j ∈ own
        · simp only [if_pos hj] at ha
          by_cases hk : k ∈ own
          · simp only [if_pos hk]; exact R1.dis j k hjk a ha
          · simp only [if_neg hk]; exact (old j hj a ha).2.2 k
        · simp only [if_neg hj] at ha
          by_cases hk : k ∈ own
          · simp only [if_pos hk]; exact fun z => (old k hk a z).2.2 j ha
          · simp only [if_neg hk]; exact R2.dis j k hjk a ha
      · refine st2.h a o (st1.h a o e fun j hj => k j (List.mem_append_left _ hj)) fun j hj z => ?_
        obtain ⟨_, hjo⟩ := mem_minus.mp hj
        rw [wf_out hjo] at z
        rcases st1.back z with w | ⟨i', hi', w⟩ | ⟨_, w⟩
        · rw [e] at w; cases w
        · exact k i' (List.mem_append_left _ hi') w
        · exact k j (List.mem_append_right _ hj) w
      · rcases st2.nf a e with q | q | ⟨j, hj, q⟩
        · rcases st1.nf a q with q | q | ⟨j, hj, q⟩
          · exact .inl q
          · exact .inr (.inl q)
          · exact .inr (.inr ⟨j, List.mem_append_left _ hj, q⟩)
        · exact .inr (.inl (st1.d a q))
        · obtain ⟨_, hjo⟩ := mem_minus.mp hj
          rw [wf_out hjo] at q
          rcases st1.back q with w | ⟨i', hi', w⟩ | ⟨_, w⟩
          · exact .inr (.inl w)
          · exact .inr (.inr ⟨i', List.mem_append_left _ hi', w⟩)
          · exact .inr (.inr ⟨j, List.mem_append_right _ hj, w⟩)
      · have base : ∀ k, a ∈ fps1 k → k ∈ mvs ++ minus (tg.sl ++ mvc ++ mve) own → H a = none ∨ ∃ i ∈ mvs ++ minus (tg.sl ++ mvc ++ mve) own, a ∈ fps i := fun k z hk => by
          rcases st1.back z with w | ⟨i', hi', w⟩ | ⟨_, w⟩
          · exact .inl w
          · exact .inr ⟨i', List.mem_append_left _ hi', w⟩
          · exact .inr ⟨k, hk, w⟩
        by_cases hjo : j ∈ own
        · simp only [if_pos hjo] at ha
          exact base j ha hj
        · simp only [if_neg hjo] at ha
          rcases st2.back ha with w | ⟨k, hk, w⟩ | ⟨_, w⟩
          · exact .inl (st1.d a w)
          · obtain ⟨_, hko⟩ := mem_minus.mp hk
            rw [wf_out hko] at w
            exact base k w (List.mem_append_right _ hk)
          · rw [wf_out hjo] at w
            exact base j w hj
      · have q1 := st1.o j fun z => hj (List.mem_append_left _ z)
        rw [get_restore ll]
        by_cases hjo : j ∈ own
        · simp only [if_pos hjo]
          exact q1
        · simp only [if_neg hjo]
          have q2 := st2.o j fun z => hj (List.mem_append_right _ z)
          rw [get_wipe, get_wipe, if_neg hjo, if_neg hjo] at q2
          refine ⟨q2.1.trans q1.1, ?_⟩
          rw [q2.2, wf_out hjo]
          exact q1.2
      · have tail : ∀ a, H1 a = none ∨ (∃ j ∈ minus (tg.sl ++ mvc ++ mve) own, a ∈ wf own fps1 j) → H a = none ∨ ∃ j ∈ mvs ++ minus (tg.sl ++ mvc ++ mve) own, a ∈ fps j := fun a q => by
          rcases q with q | ⟨j, hj, q⟩
          · exact .inl (st1.d a q)
          · obtain ⟨_, hjo⟩ := mem_minus.mp hj
            rw [wf_out hjo] at q
            rcases st1.back q with w | ⟨i', hi', w⟩ | ⟨_, w⟩
            · exact .inl w
            · exact .inr ⟨i', List.mem_append_left _ hi', w⟩
            · exact .inr ⟨j, List.mem_append_right _ hj, w⟩
        rcases List.mem_cons.mp ha with z | z
        · subst z
          refine ⟨fun j z => ?_, tail a (.inl hDd)⟩
          by_cases hjo : j ∈ own
          · simp only [if_pos hjo] at z
            obtain ⟨_, o, q2, _⟩ := R1.there z
            rw [hDd] at q2; cases q2
          · simp only [if_neg hjo] at z
            exact hDf j z
        · refine ⟨fun j w => ?_, tail a (hfq a z).2⟩
          by_cases hjo : j ∈ own
          · simp only [if_pos hjo] at w
            rcases (hfq a z).2 with q | ⟨k, hk, q⟩
            · obtain ⟨_, o, q2, _⟩ := R1.there w
              rw [q] at q2; cases q2
            · obtain ⟨_, hko⟩ := mem_minus.mp hk
              rw [wf_out hko] at q
              exact R1.dis j k (fun e => hko (e ▸ hjo)) a w q
          · simp only [if_neg hjo] at w
            exact (hfq a z).1 j w
end Z

set_option Elab.async false
set_option linter.all false
set_option maxRecDepth 100000
namespace Z
open PySem PySem.Spec PyProof.Rows L2

section
variable {X : Cx} {p pos : Pos}
/-- a view of a slot is frozen, is moved -/
theorem se_frv {e : Expr} {i : Nat} (h : PE X e (tE X.kw [] [i] fun s => R.of (get s i) s)) : PE X e (tE X.kw [i] [] fun s => match get s i with | some d => .ok d.frz (s.set i (some d.frz)) | none => .bad) := pe_imp h fun σ H Q h => by
  obtain ⟨F, s, fps, R, h⟩ := h
  refine ⟨F, s, fps, R, ?_⟩
  try dsimp only at h ⊢
  cases e : get s i with
  | none => rw [e] at h; exact h
  | some d =>
    rw [e] at h
    simp only [of_some]
    refine fun v H' F' fps' fp R' st' rs => ?_
    obtain ⟨R2, st2⟩ := R'.frzd e
    have st := (st'.trans st2).weak (mv2 := [i]) fun j hj => by simpa using hj
    have key : ∀ a ∈ fp, a ∈ fps' i ∨ ((∀ j, a ∉ fps' j) ∧ H a = none) := fun a ha => by
      rcases rs.fr a ha with ⟨j, hj, q⟩ | ⟨q, w⟩
      · have : j = i := List.mem_singleton.mp hj
        subst this
        exact .inl q
      · rcases w with w | ⟨j, hj, _⟩
        · exact .inr ⟨q, w⟩
        · cases hj
    have new : ∀ a ∈ fp.filter (fun a => decide (a ∉ fps' i)), (∀ j, a ∉ fps' j) ∧ H a = none := fun a ha => by
      obtain ⟨h1, h2⟩ := List.mem_filter.mp ha
      rcases key a h1 with q | q
      · exact absurd q (of_decide_eq_true h2)
      · exact q
    have R3 := R2.frzt (fp := fp.filter (fun a => decide (a ∉ fps' i))) fun a ha j z => by
      by_cases hj : j = i
      · simp [hj] at z
      · simp only [if_neg hj] at z
        exact (new a ha).1 j z
    have st3 := st.frzt (fp := fp.filter (fun a => decide (a ∉ fps' i))) R2.sub fun a ha => .inl (new a ha).2
    refine h v H' _ _ [] R3 st3 ⟨rs.rep.frz (fun a o e => fzH_f R2.sub a o (fzH_f R'.sub a o e)) fun a ha o e => ?_, fun a ha => nomatch ha⟩
    by_cases hi : a ∈ fps' i
    · exact fzH_f R2.sub a o (by rw [fzH_in hi]; exact e)
    · rw [fzH_in (List.mem_filter.mpr ⟨ha, decide_eq_true hi⟩)]; exact e
theorem se_movv {e : Expr} {i : Nat} (h : PE X e (tE X.kw [] [i] fun s => R.of (get s i) s)) : PE X e (tE X.kw [i] [] fun s => match get s i with | some d => .ok d (s.set i none) | none => .bad) := pe_imp h fun σ H Q h => by
  obtain ⟨F, s, fps, R, h⟩ := h
  refine ⟨F, s, fps, R, ?_⟩
  try dsimp only at h ⊢
  cases e : get s i with
  | none => rw [e] at h; exact h
  | some d =>
    rw [e] at h
    simp only [of_some]
    refine fun v H' F' fps' fp R' st' rs => ?_
    obtain ⟨R2, st2⟩ := R'.moved (get_lt e)
    have st := (st'.trans st2).weak (mv2 := [i]) fun j hj => by simpa using hj
    refine h v H' _ _ fp R2 st ⟨rs.rep, fun a ha => .inr ?_⟩
    rcases rs.fr a ha with ⟨j, hj, q⟩ | ⟨q, w⟩
    · have : j = i := List.mem_singleton.mp hj
      subst this
      refine ⟨fun k z => ?_, ?_⟩
      · by_cases hk : k = j
        · simp [hk] at z
        · simp only [if_neg hk] at z
          exact R'.dis j k (fun q => hk q.symm) a q z
      · have q2 := (st'.o j (by simp)).2
        rw [q2] at q
        exact .inr ⟨j, List.mem_singleton.mpr rfl, q⟩
    · refine ⟨fun k z => ?_, ?_⟩
      · by_cases hk : k = i
        · simp [hk] at z
        · simp only [if_neg hk] at z
          exact q k z
      · rcases w with w | ⟨j, hj, _⟩
        · exact .inl w
        · cases hj

/-! ### calls of built-ins -/
theorem tE_r1 {K : Kw} {g : D → Option D} {mv vw : List Nat} {f : Env → R D} {σ : L2.St} {H : Hp} {Q : VK} (h : tE K mv [] (fun s => (f s).bind fun x s => R.of (g x) s) σ H Q) : tCB (r1 (rU K g false)) (tCons (tE K mv vw f) tNil) σ H Q := by
  have q : tUn (rU K g false) (tE K mv vw f) σ H Q := tE_un (vf := false) h
  obtain ⟨F, s, fps, R, q⟩ := q
  refine ⟨F, s, fps, R, ?_⟩
  cases e : f s with
  | exc x s' => rw [e] at q; exact q
  | bad => rw [e] at q; exact q
  | ok d s' =>
    rw [e] at q
    exact fun v H' F' fps' fp R' st rs => ⟨v, rfl, q v H' F' fps' fp R' st rs⟩
theorem tE_r2 {K : Kw} {g : D → D → Option D} {k : Bool} {mva vwa mvb vwb : List Nat} {fa fb : Env → R D} {σ : L2.St} {H : Hp} {Q : VK} (hk : k = true ∨ disj vwa mvb = true)
    (h : tE K (mva ++ mvb) [] (fun s => (fa s).bind fun x s => (fb s).bind fun y s => if k && x.own then .bad else R.of (g x y) s) σ H Q) : tCB (r2 (rO K g false)) (tCons (tE K mva vwa fa) (tCons (tE K mvb vwb fb) tNil)) σ H Q := by
  have q : tOp (rO K g false) (tE K mva vwa fa) (tE K mvb vwb fb) σ H Q := tE_two (vf := false) hk h
  obtain ⟨F, s, fps, R, q⟩ := q
  refine ⟨F, s, fps, R, ?_⟩
  cases e : fa s with
  | exc x s' => rw [e] at q; exact q
  | bad => rw [e] at q; exact q
  | ok d s' =>
    rw [e] at q
    refine fun v H' F' fps' fp R' st rs => ?_
    obtain ⟨F2, s2, fps2, R2, q2⟩ := q v H' F' fps' fp R' st rs
    refine ⟨F2, s2, fps2, R2, ?_⟩
    cases e2 : fb s2 with
    | exc x s' => rw [e2] at q2; exact q2
    | bad => rw [e2] at q2; exact q2
    | ok d2 s3 =>
      rw [e2] at q2
      exact fun w H3 F3 fps3 fp3 R3 st3 rs3 => ⟨v, w, rfl, q2 w H3 F3 fps3 fp3 R3 st3 rs3⟩
theorem sb_fn {x : Str} {id : String} {u : U1} {e : Expr} {mv vw : List Nat} {f : Env → R D} (hc : CallR X (.builtin id) (r1 (rU X.kw (un1 u) false))) (hg : Gl X x) (hm : X.mg x = none) (hv : bootBuiltins x = some (.builtin id)) (h : PE X e (tE X.kw mv vw f)) (hs : starEach [e] X.env = [(false, eval e X.env)])
    (hn : x ≠ "__name__" := by decide) (hdb : (x == ("__debug__" : Str)) = false := by decide) : PE X (.Call (.Name x p) [e] [] pos) (tE X.kw mv [] fun s => (f s).bind fun x s => R.of (un1 u x) s) :=
  pe_imp (pe_callB hc hg hm hv (sa_1 h hs) hn hdb hs rfl) fun σ H Q h => tE_r1 h
theorem sb_ty {x : Str} {T : String} {u : U1} {e : Expr} {mv vw : List Nat} {f : Env → R D} (hc : CallR X (.type T) (r1 (rU X.kw (un1 u) false))) (hg : Gl X x) (hm : X.mg x = none) (hv : bootBuiltins x = some (.type T)) (h : PE X e (tE X.kw mv vw f)) (hs : starEach [e] X.env = [(false, eval e X.env)])
    (hn : x ≠ "__name__" := by decide) (hdb : (x == ("__debug__" : Str)) = false := by decide) : PE X (.Call (.Name x p) [e] [] pos) (tE X.kw mv [] fun s => (f s).bind fun x s => R.of (un1 u x) s) :=
  pe_imp (pe_callTy hc hg hm hv (sa_1 h hs) hn hdb hs rfl) fun σ H Q h => tE_r1 h
theorem sa_2 {a b : Expr} {ta tb : TE} (ha : PE X a ta) (hb : PE X b tb) (hs : starEach [a, b] X.env = (false, eval a X.env) :: starEach [b] X.env) (hs2 : starEach [b] X.env = [(false, eval b X.env)]) : PA X [a, b] (tCons ta (tCons tb tNil)) := pa_cons ha (pa_cons hb pa_nil hs2) hs
theorem sb_fn2 {x : Str} {id : String} {o : O2} {k : Bool} {a b : Expr} {mva vwa mvb vwb : List Nat} {fa fb : Env → R D} (hc : CallR X (.builtin id) (r2 (rO X.kw (op2 o) false))) (hg : Gl X x) (hm : X.mg x = none) (hv : bootBuiltins x = some (.builtin id))
    (hk : k = true ∨ disj vwa mvb = true) (ha : PE X a (tE X.kw mva vwa fa)) (hb : PE X b (tE X.kw mvb vwb fb)) (hs : starEach [a, b] X.env = (false, eval a X.env) :: starEach [b] X.env) (hs2 : starEach [b] X.env = [(false, eval b X.env)])
    (hn : x ≠ "__name__" := by decide) (hdb : (x == ("__debug__" : Str)) = false := by decide) : PE X (.Call (.Name x p) [a, b] [] pos) (tE X.kw (mva ++ mvb) [] fun s => (fa s).bind fun x s => (fb s).bind fun y s => if k && x.own then .bad else R.of (op2 o x y) s) :=
  pe_imp (pe_callB hc hg hm hv (sa_2 ha hb hs hs2) hn hdb hs (by rw [hs2]; rfl)) fun σ H Q h => tE_r2 hk h
/-! ### isinstance -/
def tyName : D → String
  | .non => "NoneType"
  | .bl _ => "bool"
  | .int _ => "int"
  | .str _ => "str"
  | .tup _ => "tuple"
  | .lst _ _ => "list"
  | .dct _ _ => "dict"
  | .set _ _ => "set"
  | .ins _ _ _ => "object"
theorem rep_ty {K : Kw} {F H : Hp} {v : V} {d : D} {fp : List Addr} (m : ∀ a o, F a = some o → H a = some o) (r : Rep K F H v d fp) (hd : ∀ b kvs, d ≠ .dct b kvs) : TyX K H v (.type (tyName d)) := by
  cases r with
  | dctF _ _ _ _ _ => exact absurd rfl (hd _ _)
  | dctO _ _ _ _ _ _ _ => exact absurd rfl (hd _ _)
  | non => exact .base .non
  | bl b => exact .base (.bl b)
  | int i => exact .base (.int i)
  | str s h => exact .base (.str _)
  | tup h hs =>
    rcases h with (h | ⟨o, h⟩) | ⟨o, its, n, h1, h2, _⟩
    · exact .base (.tup (m _ _ h))
    · exact .fTuple (m _ _ h)
    · exact .kTuple h1 h2
  | lstF h hs =>
    rcases h with (h | ⟨o, h⟩) | ⟨o, its, n, h1, h2, _⟩
    · exact .base (.lst (m _ _ h))
    · exact .base (.frz (m _ _ h))
    · exact .kList h1 h2
  | lstO h hf hs hn => exact .base (.lst h)
theorem rep_kit {pins : List (Addr × Obj)} {σ : L2.St} {F H : Hp} {s : Shared} {v : V} {d : D} {fp : List Addr} {u : Value} (I : Inv X pins σ H s) (m : ∀ a o, F a = some o → H a = some o) (r : Rep X.kw F H v d fp) (ru : RelV v u) :
    ∃ P : Heap → Prop, PySem.W.KitX X.K u (.type (tyName d)) P ∧ P s.heap ∧ u ≠ .builtin "__main__.__loader__#opaque" := by
  by_cases h : ∃ b kvs, d = .dct b kvs
  · obtain ⟨b, kvs, rfl⟩ := h
    obtain ⟨a, o, zs, fq, rfl, dc, _, _⟩ := rep_dct m r
    obtain rfl : u = .ref a := ru
    exact ⟨_, PySem.W.kitx_dict, ⟨o, do_get I dc.at_, dc.ok.ex.1⟩, fun z => nomatch z⟩
  · exact kit_of I ru (rep_ty m r fun b kvs e => h ⟨b, kvs, e⟩)
def isU : String → Option U1
  | "str" => some .isStr
  | "tuple" => some .isTup
  | "list" => some .isLst
  | "bool" => some .isBool
  | "int" => some .isInt
  | _ => none
theorem kit_all {T : String} {u : U1} (h : isU T = some u) {K : Kw} {F H : Hp} {v : V} {d : D} {fp : List Addr} (r : Rep K F H v d fp) : ∃ b, kitB (tyName d) T = some b ∧ un1 u d = some (.bl b) := by
  unfold isU at h
  split at h <;> cases h <;> cases r <;> first
    | exact ⟨true, by dsimp only [tyName]; decide +kernel, rfl⟩
    | exact ⟨false, by dsimp only [tyName]; decide +kernel, rfl⟩
theorem cu_isi {T : String} {u : U1} (h : isU T = some u) : CallR X (.builtin "isinstance") (fun xs H Q => ∃ x, xs = [x, .ty T] ∧ rU X.kw (un1 u) false x H Q) := by
  intro pins s σ H xs us Q I rs hq
  obtain ⟨x, rfl, F, d1, fp1, d, m, r1, e, q⟩ := hq
  obtain ⟨b, hb, hu⟩ := kit_all h r1
  rw [hu] at e
  cases e
  obtain ⟨u1, u2, rfl, ru, r2⟩ := vals2 rs
  have e2 := (ClsV.ty T).eq r2
  subst e2
  obtain ⟨P, Z, p, hx⟩ := rep_kit I m r1 ru
  exact PySem.W.kia_one Z I.kIn p (kit_ty hb) hx fun tk => ⟨.bl b, H, I.tok tk, rfl, give_bl m q⟩
theorem sb_isi {x y : Str} {T : String} {u : U1} {e : Expr} {p2 : Pos} {mv vw : List Nat} {f : Env → R D} (hu : isU T = some u) (hx : x = "isinstance") (hg : Gl X x) (hm : X.mg x = none) (hgy : Gl X y) (hmy : X.mg y = none) (hvy : bootBuiltins y = some (.type T)) (hny : y ≠ "__name__")
    (hdy : (y == ("__debug__" : Str)) = false) (h : PE X e (tE X.kw mv vw f)) (hs : starEach [e, .Name y p2] X.env = (false, eval e X.env) :: starEach [.Name y p2] X.env) :
    PE X (.Call (.Name x p) [e, .Name y p2] [] pos) (tE X.kw mv [] fun s => (f s).bind fun x s => R.of (un1 u x) s) := by
  subst hx
  refine pe_imp (pe_callB (cu_isi hu) hg hm PyProof.Rows.boot_isinstance (sa_2 h (pe_bltn (v := .ty T) hgy hmy hvy rfl hny hdy) hs rfl) (by decide) (by decide) hs rfl) fun σ H Q h => ?_
  have q : tUn (rU X.kw (un1 u) false) (tE X.kw mv vw f) σ H Q := tE_un (vf := false) h
  obtain ⟨F, s, fps, R, q⟩ := q
  refine ⟨F, s, fps, R, ?_⟩
  cases e : f s with
  | exc x s' => rw [e] at q; exact q
  | bad => rw [e] at q; exact q
  | ok d s' =>
    rw [e] at q
    exact fun v H' F' fps' fp R' st rs => ⟨v, rfl, q v H' F' fps' fp R' st rs⟩
/-! ### x is None -/
theorem se_isN {a : Expr} {j : Nat} {p2 : Pos} {mv vw : List Nat} {f : Env → R D} (h : PE X a (tE X.kw mv vw f)) : PC X .Is a (.Constant .none j p2) (tE X.kw mv [] fun s => (f s).bind fun x s => R.of (un1 .isNone x) s) := by
  have key := pc_isN (j := j) (pos' := p2) h
  refine ⟨fun pins s σ H Q I q => key.run pins s σ H Q I ?_⟩
  have q : tUn (rU X.kw (un1 .isNone) false) (tE X.kw mv vw f) σ H Q := tE_un (vf := false) q
  obtain ⟨F, s, fps, R, q⟩ := q
  refine ⟨F, s, fps, R, ?_⟩
  cases e : f s with
  | exc x s' => rw [e] at q; exact q
  | bad => rw [e] at q; exact q
  | ok d s' =>
    rw [e] at q
    refine fun v H' F' fps' fp R' st rs => ?_
    obtain ⟨F2, d2, fp2, d3, m, r, e2, g⟩ := q v H' F' fps' fp R' st rs
    cases r <;> (simp only [un1, Option.some.injEq] at e2; subst e2; exact give_bl m g)
theorem se_notN {a : Expr} {j : Nat} {p2 : Pos} {mv vw : List Nat} {f : Env → R D} (h : PE X a (tE X.kw mv vw f)) : PC X .IsNot a (.Constant .none j p2) (tE X.kw mv [] fun s => (f s).bind fun x s => R.of (un1 .notNone x) s) := by
  have key := pc_notN (j := j) (pos' := p2) h
  refine ⟨fun pins s σ H Q I q => key.run pins s σ H Q I ?_⟩
  have q : tUn (rU X.kw (un1 .notNone) false) (tE X.kw mv vw f) σ H Q := tE_un (vf := false) q
  obtain ⟨F, s, fps, R, q⟩ := q
  refine ⟨F, s, fps, R, ?_⟩
  cases e : f s with
  | exc x s' => rw [e] at q; exact q
  | bad => rw [e] at q; exact q
  | ok d s' =>
    rw [e] at q
    refine fun v H' F' fps' fp R' st rs => ?_
    obtain ⟨F2, d2, fp2, d3, m, r, e2, g⟩ := q v H' F' fps' fp R' st rs
    cases r <;> (simp only [un1, Option.some.injEq] at e2; subst e2; exact give_bl m g)
/-! ### methods of texts -/
theorem tE_m1 {K : Kw} {g : D → D → Option D} (hstr : ∀ x y d, g x y = some d → ∃ z, x = .str z) {k : Bool} {mva vwa mvb vwb : List Nat} {fa fb : Env → R D} {σ : L2.St} {H : Hp} {Q : VK} (hk : k = true ∨ disj vwa mvb = true)
    (h : tE K (mva ++ mvb) [] (fun s => (fa s).bind fun x s => (fb s).bind fun y s => if k && x.own then .bad else R.of (g x y) s) σ H Q) : tBM K "str" (m1 (rO K g false)) (tE K mva vwa fa) (tCons (tE K mvb vwb fb) tNil) σ H Q := by
  obtain ⟨F, s, fps, R, h⟩ := h
  refine ⟨F, s, fps, R, ?_⟩
  try dsimp only at h
  cases ea : fa s with
  | exc x s' => rw [ea] at h; exact h
  | bad => rw [ea] at h; exact h
  | ok d1 s1 =>
    rw [ea] at h
    refine fun x H1 F1 fps1 fp1 R1 st1 rs1 => ?_
    simp only [bind_ok] at h
    cases eb : fb s1 with
    | exc x s' => rw [eb] at h; exact h.elim
    | bad => rw [eb] at h; exact h.elim
    | ok d2 s2 =>
      rw [eb] at h
      simp only [bind_ok] at h
      by_cases hc : (k && d1.own) = true
      · rw [if_pos hc] at h; exact h.elim
      · rw [if_neg hc] at h
        cases eg : g d1 d2 with
        | none => rw [eg] at h; exact h.elim
        | some d =>
          rw [eg] at h
          obtain ⟨z, rfl⟩ := hstr _ _ _ eg
          obtain ⟨rfl, _, _⟩ := rep_str rs1.rep
          refine ⟨rfl, F1, s1, fps1, R1, ?_⟩
          rw [eb]
          refine fun y H2 F2 fps2 fp2 R2 st2 rs2 => ?_
          have rs1' := rs1.on R1 st2 (.inr rfl)
          exact ⟨y, rfl, F2, _, fp1, d2, fp2, d, R2.sub, rs1'.rep, rs2.rep, eg, give_res (vf := false) (vwa := vwa) R2 (st1.trans st2) rs1' h⟩
theorem tE_m0 {K : Kw} {g : D → Option D} (hstr : ∀ x d, g x = some d → ∃ z, x = .str z) {mva vwa : List Nat} {fa : Env → R D} {σ : L2.St} {H : Hp} {Q : VK}
    (h : tE K mva [] (fun s => (fa s).bind fun x s => R.of (g x) s) σ H Q) : tBM0 K "str" (m0 (rU K g false)) (tE K mva vwa fa) σ H Q := by
  obtain ⟨F, s, fps, R, h⟩ := h
  refine ⟨F, s, fps, R, ?_⟩
  try dsimp only at h
  cases ea : fa s with
  | exc x s' => rw [ea] at h; exact h
  | bad => rw [ea] at h; exact h
  | ok d1 s1 =>
    rw [ea] at h
    refine fun x H1 F1 fps1 fp1 R1 st1 rs1 => ?_
    simp only [bind_ok] at h
    cases eg : g d1 with
    | none => rw [eg] at h; exact h.elim
    | some d =>
      rw [eg] at h
      obtain ⟨z, rfl⟩ := hstr _ _ eg
      obtain ⟨rfl, _, _⟩ := rep_str rs1.rep
      exact ⟨rfl, rfl, F1, _, fp1, d, R1.sub, rs1.rep, eg, give_res (vf := false) (vwa := vwa) R1 st1 rs1 h⟩
theorem split_str : ∀ x y d, op2 .split x y = some d → ∃ z, x = .str z := by
  intro x y d h
  cases x <;> first | exact ⟨_, rfl⟩ | (simp [op2] at h)
theorem join_str : ∀ x y d, op2 .join x y = some d → ∃ z, x = .str z := by
  intro x y d h
  cases x <;> first | exact ⟨_, rfl⟩ | (simp [op2] at h)
theorem upper_str : ∀ x d, un1 .upper x = some d → ∃ z, x = .str z := by
  intro x d h
  cases x <;> first | exact ⟨_, rfl⟩ | (simp [un1] at h)
theorem sm_m1 {name : Str} {id : String} {op : O2} {o e : Expr} {apos cpos : Pos} {k : Bool} {mva vwa mvb vwb : List Nat} {fa fb : Env → R D} (hstr : ∀ x y d, op2 op x y = some d → ∃ z, x = .str z) (pa : PlainAttrs "str") (slot : Slot "str" name id)
    (hty : typeOf (.builtin id) = pure (.type "method_descriptor")) (hm : MtR X id (m1 (rO X.kw (op2 op) false))) (hk : k = true ∨ disj vwa mvb = true) (ha : PE X o (tE X.kw mva vwa fa)) (hb : PE X e (tE X.kw mvb vwb fb))
    (hbase : attributeBase o name X.env (eval o X.env) = eval o X.env) (hline : (apos.endLine == cpos.line) = true) (hs : starEach [e] X.env = [(false, eval e X.env)]) :
    PE X (.Call (.Attribute o name apos) [e] [] cpos) (tE X.kw (mva ++ mvb) [] fun s => (fa s).bind fun x s => (fb s).bind fun y s => if k && x.own then .bad else R.of (op2 op x y) s) :=
  pe_imp (pe_bm pa slot hty hm ha (sa_1 hb hs) hbase (by rw [hs]; rfl) hline hs rfl) fun σ H Q h => tE_m1 hstr hk h
theorem sm_m0 {name : Str} {id : String} {u : U1} {o : Expr} {apos cpos : Pos} {mva vwa : List Nat} {fa : Env → R D} (hstr : ∀ x d, un1 u x = some d → ∃ z, x = .str z) (pa : PlainAttrs "str") (slot : Slot "str" name id)
    (hty : typeOf (.builtin id) = pure (.type "method_descriptor")) (hm : MtR X id (m0 (rU X.kw (un1 u) false))) (ha : PE X o (tE X.kw mva vwa fa))
    (hbase : attributeBase o name X.env (eval o X.env) = eval o X.env) (hline : (apos.endLine == cpos.line) = true) : PE X (.Call (.Attribute o name apos) [] [] cpos) (tE X.kw mva [] fun s => (fa s).bind fun x s => R.of (un1 u x) s) :=
  pe_imp (pe_bm0 pa slot hty hm ha hbase hline) fun σ H Q h => tE_m0 hstr h
end
end Z

set_option Elab.async false
set_option linter.all false
set_option maxRecDepth 100000
/-! Methods that change a list or a dict of a slot. -/
namespace PySem.AutoSeq1
set_option maxRecDepth 8000 in
theorem ext_any {T : String} (hT : T = "list" ∨ T = "tuple") (l : Addr) (items : Array Value) (n : Nat) (b : Addr) (items2 : Array Value) (n2 : Nat) (dd : Option Addr) (sl : Array (Option Value)) (hc0 : ¬(!items.isEmpty && Builtin.List.listTooLong (items.size + items2.size)) = true) (hc1 : items.size ≤ sizeLine) (hs2 : items.size + items2.size ≤ sizeLine + 1) :
    Meets (Builtin.«list.extend» ⟨[.ref l, .ref b], []⟩) (fun _ R s => s.heap.get? l = some { cls := .type "list", dict := none, data := .seq items n, slots := #[] } ∧ s.heap.get? b = some { cls := .type T, dict := dd, data := .seq items2 n2, slots := sl } ∧ R (.ok (.ret Value.none)) { s with heap := s.heap.update l (Obj.mapSeq fun x => x ++ items2), toks := s.toks }) := by
  rcases hT with rfl | rfl
  · exact .of_wp fun prog w A R s h => by
      obtain ⟨hp, g, d, tk, os⟩ := s; obtain ⟨hl, hb, h⟩ := h; have f1 := idx_int; have f2 := sub_tuple_tuple; have f3 := sub_list_list; have f4 := sub_tuple_list; have f5 := sub_list_tuple;
      have hz' : (items ++ items2).size ≤ sizeLine + 1 := by rw [Array.size_append]; exact hs2
      wp_walk using (wpAny_updateSeq hl rfl (hz := hc1) (_hz' := hz')), wpAny_loadPart' hl, wpAny_loadPart' hb; exact ⟨_, rfl, h⟩
  · exact .of_wp fun prog w A R s h => by
      obtain ⟨hp, g, d, tk, os⟩ := s; obtain ⟨hl, hb, h⟩ := h; have f1 := idx_int; have f2 := sub_tuple_tuple; have f3 := sub_list_list; have f4 := sub_tuple_list; have f5 := sub_list_tuple;
      have hz' : (items ++ items2).size ≤ sizeLine + 1 := by rw [Array.size_append]; exact hs2
      wp_walk using (wpAny_updateSeq hl rfl (hz := hc1) (_hz' := hz')), wpAny_loadPart' hl, wpAny_loadPart' hb; exact ⟨_, rfl, h⟩
end PySem.AutoSeq1
namespace Z
open PySem PySem.Spec PyProof.Rows L2

/-- the receiver is a list (1), a dict (2) -/
def tyQ (K : Kw) (n : Nat) (x : V) (H : Hp) : Prop := (n = 1 ∧ ∃ p xs, x = .ref p ∧ SqL K H p xs) ∨ (n = 2 ∧ ∃ p o, x = .ref p ∧ H p = some (DO p o) ∧ o.ExactDict)
def tyT : Nat → String
  | 1 => "list"
  | _ => "dict"
theorem tyQ_is {X : Cx} {pins : List (Addr × Obj)} {σ : L2.St} {H : Hp} {s : Shared} {n : Nat} {x : V} {v : Value} (I : Inv X pins σ H s) (r : RelV x v) (ty : tyQ X.kw n x H) : s.TypeIs v (tyT n) ∧ ∀ a, v = .ref a → ∃ ob, s.heap.get? a = some ob ∧ ob.dict = none := by
  rcases ty with ⟨rfl, p, xs, rfl, h⟩ | ⟨rfl, p, o, rfl, h, hx⟩
  · exact tyV_is I r (T := "list") (.inl ⟨rfl, xs, h⟩)
  · obtain rfl : v = .ref p := r
    exact ⟨⟨o, do_get I h, hx.1⟩, fun a e => by cases e; exact ⟨o, do_get I h, hx.2.1⟩⟩
section
variable {X : Cx} {o e : Expr} {es : List Expr} {to : TE} {t : TA} {name : Str} {apos cpos : Pos} {n : Nat} {id : String} {r : V → List V → Hp → VK → Prop}
def tBMQ (K : Kw) (n : Nat) (r : V → List V → Hp → VK → Prop) (to : TE) (t : TA) : TE := fun σ H Q => to σ H fun x H1 => tyQ K n x H1 ∧ t σ H1 fun xs H2 => r x xs H2 Q
theorem pe_bmq0 (pa : PlainAttrs (tyT n)) (slot : Slot (tyT n) name id) (hty : typeOf (.builtin id) = pure (.type "method_descriptor")) (hm : MtR X id r) (ho : PE X o to)
    (hbase : attributeBase o name X.env (eval o X.env) = eval o X.env := by rfl) (hline : (apos.endLine == cpos.line) = true := by rfl) : PE X (.Call (.Attribute o name apos) [] [] cpos) (tBMQ X.kw n r to tNil) := by
  refine ⟨fun pins s σ H Q I h => ?_⟩
  refine wpAny_Call_method0_late hbase hline (thn (ho.run pins s σ H _ I h) fun v s1 ⟨x, H1, I1, r1, ty, q1⟩ => ?_)
  obtain ⟨h1, h2⟩ := tyQ_is I1 r1 ty
  exact ⟨tyT n, id, pa, slot, hty, h1, h2, Calls.callWith_builtin rfl (PySem.evalArgs_none (hm pins s1 σ H1 x [] v [] Q I1 r1 .nil q1))⟩
theorem pe_bmq (pa : PlainAttrs (tyT n)) (slot : Slot (tyT n) name id) (hty : typeOf (.builtin id) = pure (.type "method_descriptor")) (hm : MtR X id r) (ho : PE X o to) (ha : PA X (e :: es) t)
    (hbase : attributeBase o name X.env (eval o X.env) = eval o X.env)
    (hfew : ((backTo cpos (starEach (e :: es) X.env)).all (fun x => !x.1) && (backToKw cpos (keywordEach [] X.env)).all (fun x => x.1.isSome)
      && decide ((e :: es).length + ([] : List Keyword).length + (if ([] : List Keyword).isEmpty then 0 else 1) < 30)) = true)
    (hline : (apos.endLine == cpos.line) = true) (hs : starEach (e :: es) X.env = (false, eval e X.env) :: starEach es X.env) (hplain : (backTo cpos (starEach es X.env)).any (·.1) = false) :
    PE X (.Call (.Attribute o name apos) (e :: es) [] cpos) (tBMQ X.kw n r to t) := by
  refine ⟨fun pins s σ H Q I h => ?_⟩
  refine wpAny_Call_method_late hbase hfew hline rfl (thn (ho.run pins s σ H _ I h) fun v s1 ⟨x, H1, I1, r1, ty, q1⟩ => ?_)
  obtain ⟨h1, h2⟩ := tyQ_is I1 r1 ty
  refine ⟨tyT n, id, pa, slot, hty, h1, h2, ?_⟩
  have hA := ha.run cpos pins s1 σ H1 _ I1 q1
  rw [hs] at hA ⊢
  refine Calls.callWith_builtin (by show (false || (backTo cpos (starEach es X.env)).any (·.1)) = false; rw [hplain] <;> rfl) (Calls.evalArgs_plain ?_)
  exact thn hA fun us s2 ⟨vs, H2, I2, r2, q2⟩ => hm pins s2 σ H2 x vs v us Q I2 r1 r2 q2
end
/-- x.m(..), by values -/
def rMu (K : Kw) (n : Nat) (m : Mu) : V → List V → Hp → VK → Prop := fun x vs H Q => ∃ F d fp dys fy r d', (∀ a o, F a = some o → H a = some o) ∧ Rep K F H x d fp ∧ Reps K F H vs dys fy ∧ (∀ a ∈ fy, a ∉ fp) ∧ d.knd = n ∧ mutate m d dys = some (r, d') ∧
  ∀ v H' fp' fr, (∀ a o, H a = some o → a ∉ fp → H' a = some o) → (∀ a, H' a = none → H a = none) → Rep K F H' x d' fp' → Rep K F H' v r fr → (∀ a ∈ fp', a ∈ fp ∨ a ∈ fy ∨ H a = none) → (∀ a ∈ fr, a ∉ fp' ∧ (a ∈ fp ∨ a ∈ fy ∨ H a = none)) → Q v H'
def fMu (m : Mu) (i : Nat) (fe : Env → R (List D)) : Env → R D := fun s => match get s i with
  | none => .bad
  | some d0 => if d0.knd = m.k then (fe s).bind fun ys s => match get s i with
      | none => .bad
      | some d => match mutate m d ys with
          | some (r, d') => .ok r (s.set i (some d'))
          | none => .bad
    else .bad
theorem tyQ_of {K : Kw} {F H : Hp} {v : V} {d : D} {fp : List Addr} (hF : ∀ a o, F a = some o → H a = some o) (r : Rep K F H v d fp) (h : d.knd ≠ 0) : tyQ K d.knd v H := by
  cases r with
  | lstF h1 h2 => exact .inl ⟨rfl, _, _, rfl, sqL_mono h1 hF⟩
  | lstO h1 h2 h3 h4 => exact .inl ⟨rfl, _, _, rfl, SqL.of h1⟩
  | dctF h1 ok _ _ _ => exact .inr ⟨rfl, _, _, rfl, hF _ _ h1, ok.ex⟩
  | dctO h1 _ ok _ _ _ _ => exact .inr ⟨rfl, _, _, rfl, h1, ok.ex⟩
  | _ => exact absurd rfl h
theorem mut_knd {m : Mu} {d : D} {ys : List D} {p : D × D} (h : mutate m d ys = some p) : d.knd = m.k := by
  cases d <;> cases m <;> first | rfl | (simp [mutate] at h)
theorem Mu.k_ne (m : Mu) : m.k ≠ 0 := by cases m <;> simp [Mu.k]
section
variable {K : Kw} {σ : L2.St} {H : Hp} {Q : VK} {mve : List Nat} {fe : Env → R (List D)} {i : Nat} {m : Mu}
theorem tE_mu (h : tE K (mve ++ [i]) [] (fMu m i fe) σ H Q) : tBMQ K m.k (rMu K m.k m) (tVar i) (tA K mve fe) σ H Q := by
  obtain ⟨F, s, fps, R, h⟩ := h
  try dsimp only [fMu] at h
  cases eg0 : get s i with
  | none => rw [eg0] at h; exact h.elim
  | some d0 =>
    rw [eg0] at h
    obtain ⟨v0, hv0, r0⟩ := R.rep i d0 eg0
    try dsimp only at h
    by_cases hn : d0.knd = m.k
    · rw [if_pos hn] at h
      refine ⟨v0, hv0, by rw [← hn]; exact tyQ_of R.sub r0 (by rw [hn]; exact m.k_ne), F, s, fps, R, ?_⟩
      cases ee : fe s with
      | exc x s' => rw [ee] at h; exact h
      | bad => rw [ee] at h; exact h
      | ok dys s1 =>
        rw [ee] at h
        simp only [bind_ok] at h
        refine fun ys H1 F1 fps1 fpy R1 st1 rs1 fy => ?_
        cases eg : get s1 i with
        | none => rw [eg] at h; exact h.elim
        | some d =>
          rw [eg] at h
          try dsimp only at h
          cases em : mutate m d dys with
          | none => rw [em] at h; exact h.elim
          | some p =>
            obtain ⟨r, d'⟩ := p
            rw [em] at h
            try dsimp only at h
            obtain ⟨v, hv, rr⟩ := R1.rep i d eg
            rw [hv0] at hv
            cases hv
            refine ⟨F1, d, fps1 i, dys, fpy, r, d', R1.sub, rr, rs1, fun a ha => (fy a ha).1 i, mut_knd em, em, fun w H' fp' fr hk hd r' rw' hn hr => ?_⟩
            have st2 := st1.change (fp' := fp') (s' := s1.set i (some d')) hk hd (fun j hj => get_set_ne hj) fun a ha => by
              rcases hn a ha with q | q | q
              · exact .inl q
              · rcases (fy a q).2 with w | ⟨j, hj, w⟩
                · exact .inr (.inr (.inl w))
                · exact .inr (.inr (.inr ⟨j, hj, w⟩))
              · exact .inr (.inl q)
            have R2 := R1.change (d' := d') (get_lt eg) hv0 hk (fun a ha => (R1.there ha).1) r' fun a ha => by
              rcases hn a ha with q | q | q
              · exact .inl q
              · exact .inr (fy a q).1
              · refine .inr fun j z => ?_
                obtain ⟨_, o, ho, _⟩ := R1.there z
                rw [q] at ho; cases ho
            refine h w H' F1 _ fr R2 st2 ⟨rw', fun a ha => .inr ⟨fun j z => ?_, ?_⟩⟩
            · by_cases hj : j = i
              · simp only [if_pos hj] at z
                exact (hr a ha).1 z
              · simp only [if_neg hj] at z
                rcases (hr a ha).2 with q | q | q
                · exact R1.dis i j (fun e => hj e.symm) a q z
                · exact (fy a q).1 j z
                · obtain ⟨_, o, ho, _⟩ := R1.there z
                  rw [q] at ho; cases ho
            · rcases (hr a ha).2 with q | q | q
              · rcases st1.back q with w | ⟨j, hj, w⟩ | ⟨_, w⟩
                · exact .inl w
                · exact .inr ⟨j, List.mem_append_left _ hj, w⟩
                · exact .inr ⟨i, List.mem_append_right _ (List.mem_singleton.mpr rfl), w⟩
              · rcases (fy a q).2 with w | ⟨j, hj, w⟩
                · exact .inl w
                · exact .inr ⟨j, List.mem_append_left _ hj, w⟩
              · exact .inl (st1.d a q)
    · rw [if_neg hn] at h; exact h.elim
/-- x.m(..) of a name -/
theorem sm_mu0 {X : Cx} {x : Str} {xp apos cpos : Pos} {name : Str} {id : String} {m : Mu} {i : Nat} (pa : PlainAttrs (tyT m.k)) (slot : Slot (tyT m.k) name id) (hty : typeOf (.builtin id) = pure (.type "method_descriptor")) (hm : MtR X id (rMu X.kw m.k m))
    (ho : PE X (.Name x xp) (tVar i)) (hl : (apos.endLine == cpos.line) = true) : PE X (.Call (.Attribute (.Name x xp) name apos) [] [] cpos) (tE X.kw [i] [] (fMu m i fun s => .ok [] s)) :=
  pe_imp (pe_bmq0 pa slot hty hm ho rfl hl) fun σ H Q h => by
    obtain ⟨v, h1, h2, h3⟩ := tE_mu (mve := []) h
    refine ⟨v, h1, h2, ?_⟩
    obtain ⟨F, s, fps, R, q⟩ := h3
    exact q [] H F fps [] R .refl .nil fun a ha => nomatch ha
theorem sm_mu {X : Cx} {x : Str} {xp apos cpos : Pos} {e : Expr} {es : List Expr} {name : Str} {id : String} {m : Mu} {i : Nat} {mve : List Nat} {fe : Env → R (List D)} (pa : PlainAttrs (tyT m.k)) (slot : Slot (tyT m.k) name id) (hty : typeOf (.builtin id) = pure (.type "method_descriptor")) (hm : MtR X id (rMu X.kw m.k m))
    (ho : PE X (.Name x xp) (tVar i)) (ha : PA X (e :: es) (tA X.kw mve fe)) (hl : (apos.endLine == cpos.line) = true)
    (hfew : ((backTo cpos (starEach (e :: es) X.env)).all (fun x => !x.1) && (backToKw cpos (keywordEach [] X.env)).all (fun x => x.1.isSome)
      && decide ((e :: es).length + ([] : List Keyword).length + (if ([] : List Keyword).isEmpty then 0 else 1) < 30)) = true)
    (hs : starEach (e :: es) X.env = (false, eval e X.env) :: starEach es X.env) (hplain : (backTo cpos (starEach es X.env)).any (·.1) = false) :
    PE X (.Call (.Attribute (.Name x xp) name apos) (e :: es) [] cpos) (tE X.kw (mve ++ [i]) [] (fMu m i fe)) :=
  pe_imp (pe_bmq pa slot hty hm ho ha rfl hfew hl hs hplain) fun σ H Q h => tE_mu h
end
/-! ### lists -/
section
variable {K : Kw} {F H : Hp}
/-- an owned list gets other items -/
theorem lst_up {a : Addr} {ws : List V} {xs : List D} {fp fy : List Addr} {zs : List V} {es : List D} (hf : F a = none) (ha : a ∉ fp) (hs : Reps K F H zs es fy) (hy : ∀ c ∈ fy, c ≠ a) :
    (∀ b o, H b = some o → b ∉ (a :: fp) → (upd H a (.lst zs)) b = some o) ∧ (∀ b, (upd H a (.lst zs)) b = none → H b = none) ∧ Rep K F (upd H a (.lst zs)) (.ref a) (.lst true es) (a :: fy) := by
  have hu : ∀ b : Addr, b ≠ a → ∀ o, H b = some o → (upd H a (.lst zs)) b = some o := fun b hb o e => by rw [upd_ne hb]; exact e
  refine ⟨fun b o e hb => hu b (fun z => hb (z ▸ List.mem_cons_self)) o e, fun b e => ?_, .lstO upd_same hf (hs.mono (fun _ _ e => e) fun b hb => ⟨hu b (hy b hb), (hs.own b hb).1⟩) fun z => hy a z rfl⟩
  by_cases hb : b = a
  · subst hb; rw [upd_same] at e; cases e
  · rw [upd_ne hb] at e; exact e
end
theorem mut_append {d r d' : D} {dys : List D} (h : mutate .append d dys = some (r, d')) : ∃ xs y, d = .lst true xs ∧ dys = [y] ∧ xs.length < SL ∧ r = .non ∧ d' = .lst true (xs ++ [y]) := by
  cases d <;> (try (simp [mutate] at h; done))
  rename_i o xs
  cases o <;> (try (simp [mutate] at h; done))
  rcases dys with _ | ⟨y, _ | ⟨y2, ys⟩⟩ <;> (try (simp [mutate] at h; done))
  simp only [mutate] at h
  split at h
  · cases h; exact ⟨xs, y, rfl, rfl, by assumption, rfl, rfl⟩
  · cases h
theorem mut_pop {d r d' : D} {dys : List D} (h : mutate .pop d dys = some (r, d')) : ∃ xs, d = .lst true xs ∧ dys = [] ∧ xs.getLast? = some r ∧ d' = .lst true xs.dropLast := by
  cases d <;> (try (simp [mutate] at h; done))
  rename_i o xs
  cases o <;> (try (simp [mutate] at h; done))
  rcases dys with _ | ⟨y, ys⟩ <;> (try (simp [mutate] at h; done))
  simp only [mutate] at h
  split at h
  · rename_i y e; cases h; exact ⟨xs, rfl, rfl, e, rfl⟩
  · cases h
theorem mut_extend {d r d' : D} {dys : List D} (h : mutate .extend d dys = some (r, d')) : ∃ xs ys, d = .lst true xs ∧ ((∃ o, dys = [.lst o ys]) ∨ dys = [.tup ys]) ∧ ownL ys = false ∧ xs.length + ys.length ≤ SL ∧ r = .non ∧ d' = .lst true (xs ++ ys) := by
  cases d <;> (try (simp [mutate] at h; done))
  rename_i o xs
  cases o <;> (try (simp [mutate] at h; done))
  rcases dys with _ | ⟨y, _ | ⟨y2, ys⟩⟩ <;> (try (simp [mutate] at h; done))
  cases y <;> (try (simp [mutate] at h; done))
  all_goals
    simp only [mutate] at h
    split at h
    · cases h
    · rename_i hc
      cases h
      first
        | exact ⟨xs, _, rfl, .inl ⟨_, rfl⟩, own_false fun z => hc (.inl z), by omega, rfl, rfl⟩
        | exact ⟨xs, _, rfl, .inr rfl, own_false fun z => hc (.inl z), by omega, rfl, rfl⟩
theorem mut_insert {d r d' : D} {dys : List D} (h : mutate .insert d dys = some (r, d')) : ∃ xs i y, d = .lst true xs ∧ dys = [.int i, y] ∧ xs.length < SL ∧ 0 ≤ i ∧ i < 4611686018427387904 ∧ r = .non ∧ d' = .lst true (xs.take i.toNat ++ y :: xs.drop i.toNat) := by
  cases d <;> (try (simp [mutate] at h; done))
  rename_i o xs
  cases o <;> (try (simp [mutate] at h; done))
  rcases dys with _ | ⟨y, _ | ⟨y2, _ | ⟨y3, ys⟩⟩⟩ <;> (try (simp [mutate] at h; done)) <;> cases y <;> (try (simp [mutate] at h; done))
  simp only [mutate] at h
  split at h
  · rename_i hc; cases h; exact ⟨xs, _, y2, rfl, rfl, hc.1, hc.2.1, hc.2.2, rfl, rfl⟩
  · cases h
theorem mut_popAtL {r d' : D} {o : Bool} {xs dys : List D} (h : mutate .popAt (.lst o xs) dys = some (r, d')) : ∃ i j, o = true ∧ dys = [.int i] ∧ ixOf xs.length i = some j ∧ xs[j]? = some r ∧ d' = .lst true (xs.eraseIdx j) := by
  cases o <;> (try (simp [mutate] at h; done))
  rcases dys with _ | ⟨y, _ | ⟨y2, ys⟩⟩ <;> (try (simp [mutate] at h; done)) <;> cases y <;> (try (simp [mutate] at h; done))
  simp only [mutate, Option.bind_eq_some_iff, Option.map_eq_some_iff, Prod.mk.injEq] at h
  obtain ⟨j, h1, y, h2, rfl, rfl⟩ := h
  exact ⟨_, j, rfl, rfl, h1, h2, rfl⟩
theorem mut_dpop {r d' : D} {o : Bool} {kvs : List (D × D)} {dys : List D} (h : mutate .dpop (.dct o kvs) dys = some (r, d')) : ∃ k, o = true ∧ dys = [k] ∧ kin kvs k = true ∧ dget kvs k = some r ∧ d' = .dct true (ddel kvs k) := by
  cases o <;> (try (simp [mutate] at h; done))
  rcases dys with _ | ⟨y, _ | ⟨y2, ys⟩⟩ <;> (try (simp [mutate] at h; done))
  simp only [mutate] at h
  split at h
  · rename_i hk
    simp only [Option.map_eq_some_iff, Prod.mk.injEq] at h
    obtain ⟨v, h1, rfl, rfl⟩ := h
    exact ⟨y, rfl, rfl, hk, h1, rfl⟩
  · cases h
/-- the parts of an owned list -/
theorem reps_last {K : Kw} {F H : Hp} : ∀ {vs : List V} {ds : List D} {fp : List Addr} {d : D}, Reps K F H vs ds fp → ds.getLast? = some d → ∃ v f1 f2, vs.getLast? = some v ∧ Reps K F H vs.dropLast ds.dropLast f1 ∧ Rep K F H v d f2 ∧ (∀ a ∈ f1, a ∈ fp) ∧ (∀ a ∈ f2, a ∈ fp) ∧ ∀ a ∈ f2, a ∉ f1
  | _, _, _, _, .nil, e => by simp at e
  | _, _, _, d, .cons (vs := vs) (ds := ds) (fp := f1) (fq := f2) h hs hd, e => by
    cases hs with
    | nil =>
      simp only [List.getLast?_singleton, Option.some.injEq] at e
      subst e
      exact ⟨_, [], f1, rfl, .nil, h, fun _ z => (nomatch z), fun a z => List.mem_append_left _ z, fun _ _ z => nomatch z⟩
    | cons h' hs' hd' =>
      rw [List.getLast?_cons_cons] at e
      obtain ⟨v, g1, g2, q1, q2, q3, q4, q5, q6⟩ := reps_last (.cons h' hs' hd') e
      refine ⟨v, f1 ++ g1, g2, by rw [List.getLast?_cons_cons]; exact q1, ?_, q3, fun a z => ?_, fun a z => List.mem_append_right _ (q5 a z), fun a z y => ?_⟩
      · exact .cons h q2 fun a z y => hd a z (q4 a y)
      · rcases List.mem_append.mp z with z | z
        · exact List.mem_append_left _ z
        · exact List.mem_append_right _ (q4 a z)
      · rcases List.mem_append.mp y with y | y
        · exact hd a y (q5 a z)
        · exact q6 a z y
theorem reps_erase {K : Kw} {F H : Hp} : ∀ {vs : List V} {ds : List D} {fp : List Addr} {d : D} {j : Nat}, Reps K F H vs ds fp → ds[j]? = some d → ∃ v f1 f2, vs[j]? = some v ∧ Reps K F H (vs.eraseIdx j) (ds.eraseIdx j) f1 ∧ Rep K F H v d f2 ∧ (∀ a ∈ f1, a ∈ fp) ∧ (∀ a ∈ f2, a ∈ fp) ∧ ∀ a ∈ f2, a ∉ f1
  | _, _, _, _, _, .nil, e => by simp at e
  | _, _, _, d, 0, .cons (vs := vs) (ds := ds) (fp := f1) (fq := f2) h hs hd, e => by
    simp at e; subst e
    exact ⟨_, f2, f1, rfl, hs, h, fun a z => List.mem_append_right _ z, fun a z => List.mem_append_left _ z, fun a z => hd a z⟩
  | _, _, _, d, j + 1, .cons (vs := vs) (ds := ds) (fp := f1) (fq := f2) h hs hd, e => by
    obtain ⟨v, g1, g2, q1, q2, q3, q4, q5, q6⟩ := reps_erase hs (j := j) (by simpa using e)
    refine ⟨v, f1 ++ g1, g2, by simpa using q1, .cons h q2 fun a z y => hd a z (q4 a y), q3, fun a z => ?_, fun a z => List.mem_append_right _ (q5 a z), fun a z y => ?_⟩
    · rcases List.mem_append.mp z with z | z
      · exact List.mem_append_left _ z
      · exact List.mem_append_right _ (q4 a z)
    · rcases List.mem_append.mp y with y | y
      · exact hd a y (q5 a z)
      · exact q6 a z y
theorem reps_insert {K : Kw} {F H : Hp} : ∀ {vs : List V} {ds : List D} {fp fy : List Addr} {y : D} {yv : V} (j : Nat), Reps K F H vs ds fp → Rep K F H yv y fy → (∀ a ∈ fy, a ∉ fp) → ∃ f1, Reps K F H (vs.take j ++ yv :: vs.drop j) (ds.take j ++ y :: ds.drop j) f1 ∧ ∀ a ∈ f1, a ∈ fp ∨ a ∈ fy
  | vs, ds, fp, fy, y, yv, 0, h, hy, hn => ⟨fy ++ fp, by simpa using .cons hy h hn, fun a z => (List.mem_append.mp z).symm⟩
  | _, _, _, fy, y, yv, j + 1, .nil, hy, hn => ⟨fy ++ [], by simpa using Reps.cons hy .nil fun _ _ z => (nomatch z), fun a z => .inr (by simpa using z)⟩
  | _, _, _, fy, y, yv, j + 1, .cons (fp := f1) (fq := f2) h hs hd, hy, hn => by
    obtain ⟨g, q1, q2⟩ := reps_insert j hs hy fun a z w => hn a z (List.mem_append_right _ w)
    have h9 := Reps.cons h q1 fun a z w => by
      rcases q2 a w with w | w
      · exact hd a z w
      · exact hn a w (List.mem_append_left _ z)
    refine ⟨f1 ++ g, by simpa using h9, fun a z => ?_⟩
    · rcases List.mem_append.mp z with z | z
      · exact .inl (List.mem_append_left _ z)
      · rcases q2 a z with z | z
        · exact .inl (List.mem_append_right _ z)
        · exact .inr z
theorem reps_1 {K : Kw} {F H : Hp} {vs : List V} {d : D} {fy : List Addr} (h : Reps K F H vs [d] fy) : ∃ v, vs = [v] ∧ Rep K F H v d fy := by
  cases h with
  | cons h hs hd =>
    cases hs
    exact ⟨_, rfl, by rw [List.append_nil]; exact h⟩
theorem reps_2 {K : Kw} {F H : Hp} {vs : List V} {d e : D} {fy : List Addr} (h : Reps K F H vs [d, e] fy) : ∃ v w f g, vs = [v, w] ∧ Rep K F H v d f ∧ Rep K F H w e g ∧ (∀ a ∈ f, a ∈ fy) ∧ ∀ a ∈ g, a ∈ fy := by
  cases h with
  | cons h hs hd =>
    obtain ⟨w, rfl, r⟩ := reps_1 hs
    exact ⟨_, _, _, _, rfl, h, r, fun a z => List.mem_append_left _ z, fun a z => List.mem_append_right _ z⟩
section
variable {X : Cx}
theorem mu_append : MtR X "list.append" (rMu X.kw 1 .append) := by
  intro pins s σ H x vs v us Q I rx rv h
  obtain ⟨F, d, fp, dys, fy, r, d', m, r1, r2, hn, hk, e, q⟩ := h
  obtain ⟨xs, y, rfl, rfl, hl, rfl, rfl⟩ := mut_append e
  obtain ⟨yv, rfl, p1⟩ := reps_1 r2
  cases r1 with
  | @lstO a ws _ fp0 h hf hs ha =>
    refine mt_append pins s σ H _ _ v us Q I rx rv ⟨a, ws, yv, rfl, rfl, h, by rw [hs.len]; exact hl, ?_⟩
    have h3 := hs.app (Reps.cons p1 .nil fun _ _ z => nomatch z) fun b hb z => by
      rw [List.append_nil] at z
      exact hn b z (List.mem_cons_of_mem _ hb)
    rw [List.append_nil] at h3
    obtain ⟨u1, u2, u3⟩ := lst_up (ws := ws) (xs := xs) (fp := fp0) hf ha h3 fun c hc z => by
      subst z
      rcases List.mem_append.mp hc with z | z
      · exact ha z
      · exact hn c z List.mem_cons_self
    refine q .non _ _ [] (fun b o e hb => u1 b o e hb) u2 u3 .non (fun b hb => ?_) fun b hb => nomatch hb
    rcases List.mem_cons.mp hb with z | z
    · subst z; exact .inl List.mem_cons_self
    · rcases List.mem_append.mp z with z | z
      · exact .inl (List.mem_cons_of_mem _ z)
      · exact .inr (.inl z)
theorem last_ix {α : Type} {xs : List α} {x : α} (h : xs.getLast? = some x) : xs[xs.length - 1]? = some x := by
  rw [← List.getLast?_eq_getElem?]; exact h
theorem mu_pop : MtR X "list.pop" (rMu X.kw 1 .pop) := by
  intro pins s σ H x vs v us Q I rx rv h
  obtain ⟨F, d, fp, dys, fy, r, d', m, r1, r2, hn, hk, e, q⟩ := h
  obtain ⟨xs, rfl, rfl, hl, rfl⟩ := mut_pop e
  cases r2
  cases r1 with
  | @lstO a ws _ fp0 h hf hs ha =>
    obtain ⟨w, f1, f2, e1, p1, p2, m1, m2, m3⟩ := reps_last hs hl
    refine mt_pop pins s σ H _ _ v us Q I rx rv ⟨a, ws, w, rfl, rfl, h, last_ix e1, ?_⟩
    obtain ⟨u1, u2, u3⟩ := lst_up (ws := ws) (xs := xs) (fp := fp0) hf ha p1 fun c hc z => by subst z; exact ha (m1 c hc)
    have p2' : Rep X.kw F (upd H a (.lst ws.dropLast)) w r f2 := p2.mono (fun _ _ e => e) fun b hb => ⟨fun o e => by rw [upd_ne (a := a) (b := b) fun z => ha (m2 a (by rw [← z]; exact hb))]; exact e, (p2.own b hb).1⟩
    refine q w _ _ f2 u1 u2 u3 p2' (fun b hb => ?_) fun b hb => ⟨fun z => ?_, .inl (List.mem_cons_of_mem _ (m2 b hb))⟩
    · rcases List.mem_cons.mp hb with z | z
      · subst z; exact .inl List.mem_cons_self
      · exact .inl (List.mem_cons_of_mem _ (m1 b z))
    · rcases List.mem_cons.mp z with z | z
      · subst z; exact ha (m2 _ hb)
      · exact m3 b hb z
theorem mu_popAt : MtR X "list.pop" (rMu X.kw 1 .popAt) := by
  intro pins s σ H x vs v us Q I rx rv h
  obtain ⟨F, d, fp, dys, fy, r, d', m, r1, r2, hn, hk, e, q⟩ := h
  cases d <;> (try (simp [D.knd] at hk; done))
  rename_i ob xs
  obtain ⟨i, j, rfl, rfl, h1, h2, rfl⟩ := mut_popAtL e
  obtain ⟨iv, rfl, pi⟩ := reps_1 r2
  obtain ⟨rfl, _⟩ := rep_int pi
  cases r1 with
  | @lstO a ws _ fp0 h hf hs ha =>
    obtain ⟨w, f1, f2, e1, p1, p2, m1, m2, m3⟩ := reps_erase hs h2
    have hz := (I.lstM h).1
    have hsl := hs.len
    have b1 : -(2 ^ 63) ≤ i ∧ i < 2 ^ 63 ∧ seqIndex? i ws.length = some j := by
      rw [ixOf_eq] at h1
      obtain ⟨s1, s2, s3, s4⟩ := ixN_seq h1
      rw [hsl, sizeLine_eq] at hz
      refine ⟨by omega, by omega, by rw [hsl]; exact s1⟩
    refine mt_popAt pins s σ H _ _ v us Q I rx rv ⟨a, ws, i, j, w, rfl, rfl, h, b1.1, b1.2.1, b1.2.2, e1, ?_⟩
    obtain ⟨u1, u2, u3⟩ := lst_up (ws := ws) (xs := xs) (fp := fp0) hf ha p1 fun c hc z => by subst z; exact ha (m1 c hc)
    have p2' : Rep X.kw F (upd H a (.lst (ws.eraseIdx j))) w r f2 := p2.mono (fun _ _ e => e) fun b hb => ⟨fun o e => by rw [upd_ne (a := a) (b := b) fun z => ha (m2 a (by rw [← z]; exact hb))]; exact e, (p2.own b hb).1⟩
    refine q w _ _ f2 u1 u2 u3 p2' (fun b hb => ?_) fun b hb => ⟨fun z => ?_, .inl (List.mem_cons_of_mem _ (m2 b hb))⟩
    · rcases List.mem_cons.mp hb with z | z
      · subst z; exact .inl List.mem_cons_self
      · exact .inl (List.mem_cons_of_mem _ (m1 b z))
    · rcases List.mem_cons.mp z with z | z
      · subst z; exact ha (m2 _ hb)
      · exact m3 b hb z
theorem mu_insert : MtR X "list.insert" (rMu X.kw 1 .insert) := by
  intro pins s σ H x vs v us Q I rx rv h
  obtain ⟨F, d, fp, dys, fy, r, d', m, r1, r2, hn, hk, e, q⟩ := h
  obtain ⟨xs, i, y, rfl, rfl, hl, h0, h1, rfl, rfl⟩ := mut_insert e
  obtain ⟨iv, yv, g1, g2, rfl, pi, py, gm1, gm2⟩ := reps_2 r2
  obtain ⟨rfl, _⟩ := rep_int pi
  cases r1 with
  | @lstO a ws _ fp0 h hf hs ha =>
    obtain ⟨f1, p1, m1⟩ := reps_insert i.toNat hs py fun b hb z => hn b (gm2 b hb) (List.mem_cons_of_mem _ z)
    refine mt_insert pins s σ H _ _ v us Q I rx rv ⟨a, ws, i, yv, rfl, rfl, h, by rw [hs.len, sl_eq]; exact hl, h0, by omega, ?_⟩
    rw [List.append_assoc, List.singleton_append]
    obtain ⟨u1, u2, u3⟩ := lst_up (ws := ws) (xs := xs) (fp := fp0) hf ha p1 fun c hc z => by
      subst z
      rcases m1 c hc with z | z
      · exact ha z
      · exact hn c (gm2 c z) List.mem_cons_self
    refine q .non _ _ [] u1 u2 u3 .non (fun b hb => ?_) fun b hb => nomatch hb
    rcases List.mem_cons.mp hb with z | z
    · subst z; exact .inl List.mem_cons_self
    · rcases m1 b z with z | z
      · exact .inl (List.mem_cons_of_mem _ z)
      · exact .inr (.inl (gm2 b z))
theorem mu_extend : MtR X "list.extend" (rMu X.kw 1 .extend) := by
  intro pins s σ H x vs v us Q I rx rv h
  obtain ⟨F, d, fp, dys, fy, r, d', m, r1, r2, hn, hk, e, q⟩ := h
  obtain ⟨xs, ys, rfl, hy, ho, hl, rfl, rfl⟩ := mut_extend e
  have key : ∃ b ws2 T, vs = [.ref b] ∧ (T = "list" ∨ T = "tuple") ∧ Reps X.kw F H ws2 ys [] ∧ ∃ its2 : List Value, Vals ws2 its2 ∧ ∃ dd sl n2, s.heap.get? b = some { cls := .type T, dict := dd, data := .seq its2.toArray n2, slots := sl } := by
    rcases hy with ⟨o, rfl⟩ | rfl
    · obtain ⟨yv, rfl, p⟩ := reps_1 r2
      obtain ⟨b, ws2, f0, rfl, t1, p1, _⟩ := rep_lst m p
      obtain ⟨its, r, ⟨⟨c, dd, dt, sl⟩, n, e, hc, hd, hdt⟩, _⟩ := I.list t1
      simp only at hc hd hdt
      subst hc hd hdt
      exact ⟨b, ws2, "list", rfl, .inl rfl, fps_nil p1 ho, its, r, _, _, n, e⟩
    · obtain ⟨yv, rfl, p⟩ := reps_1 r2
      obtain ⟨b, ws2, rfl, t0, t1, p1⟩ := rep_tup m p
      obtain ⟨its, r, ⟨⟨c, dd, dt, sl⟩, e, hc, n, hdt⟩, _⟩ := I.tuple t1
      simp only at hc hdt
      subst hc hdt
      exact ⟨b, ws2, "tuple", rfl, .inr rfl, fps_nil p1 ho, its, r, _, _, n, e⟩
  obtain ⟨b, ws2, T, rfl, hT, p2, its2, rv2, dd, sl, n2, hb⟩ := key
  cases r1 with
  | @lstO a ws _ fp0 h hf hs ha =>
    cases rx
    obtain ⟨u, rfl, ru⟩ := rv.one
    cases ru
    obtain ⟨z, its, n, r, hl1, e1⟩ := I.lstM h
    have l1 := hs.len
    have l2 := p2.len
    have l3 := rv2.length
    have hsz : its.toArray.size + its2.toArray.size ≤ sizeLine := by rw [List.size_toArray, List.size_toArray, sl_eq]; omega
    have hlong : ¬ (!its.toArray.isEmpty && Builtin.List.listTooLong (its.toArray.size + its2.toArray.size)) = true := by
      rw [notLongL hsz, Bool.and_false]
      exact Bool.false_ne_true
    refine call_meets PySem.F.slot_list_extend ⟨_, e1, rfl⟩ PySem.F.entry_list_extend (PySem.F.args_list_extend_2 _ _)
      (AutoSeq1.ext_any hT a its.toArray n b its2.toArray n2 dd sl hlong (by rw [List.size_toArray]; omega) (by omega)) ⟨e1, hb, ?_⟩
    have h3 := hs.app p2 fun _ _ z => nomatch z
    rw [List.append_nil] at h3
    obtain ⟨u1, u2, u3⟩ := lst_up (ws := ws) (xs := xs) (fp := fp0) hf ha h3 fun c hc z => by subst z; exact ha hc
    refine ⟨.non, _, I.lset (its' := its ++ its2) h e1 (by simp) (r.append rv2) (by rw [List.length_append, sl_eq]; omega), rfl, ?_⟩
    refine q .non _ _ [] u1 u2 u3 .non (fun c hc => ?_) fun c hc => nomatch hc
    rcases List.mem_cons.mp hc with z | z
    · subst z; exact .inl List.mem_cons_self
    · exact .inl (List.mem_cons_of_mem _ z)
end
end Z

set_option Elab.async false
set_option linter.all false
set_option maxRecDepth 100000
/-! d.get(k, x). -/
namespace Z
open PySem PySem.Spec PyProof.Rows L2
theorem mut_getd {d r d' : D} {dys : List D} (h : mutate .getd d dys = some (r, d')) : ∃ o kvs k z, d = .dct o kvs ∧ dys = [k, z] ∧ kin kvs k = true ∧ d' = .dct o kvs ∧ ((dget kvs k = some r ∧ r.own = false) ∨ (dget kvs k = none ∧ r = z)) := by
  cases d <;> (try (simp [mutate] at h; done))
  rename_i o kvs
  match dys with
  | [] => simp [mutate] at h
  | [_] => simp [mutate] at h
  | _ :: _ :: _ :: _ => simp [mutate] at h
  | [k, z] =>
    simp only [mutate] at h
    split at h
    · rename_i hk
      split at h
      · rename_i v hv
        split at h
        · cases h
        · rename_i ho
          cases h
          exact ⟨o, kvs, k, z, rfl, rfl, hk, rfl, .inl ⟨hv, by simpa using ho⟩⟩
      · rename_i hv
        cases h
        exact ⟨o, kvs, k, _, rfl, rfl, hk, rfl, .inr ⟨hv, rfl⟩⟩
    · cases h
theorem mu_getd {X : Cx} (hu : X.A.units + 65 < cLine) : MtR X "dict.get" (rMu X.kw 2 .getd) := by
  intro pp s1 τ G x vs v us Q J rx rv h
  obtain ⟨F, d, fp, dys, fy, r, d', m, r1, r2, hn, hk, e, q⟩ := h
  obtain ⟨o, kvs, kd, z, rfl, rfl, hkin, rfl, hr⟩ := mut_getd e
  obtain ⟨yv, zv, f, g, rfl, p1, p2, s1', s2'⟩ := reps_2 r2
  obtain ⟨uy, uz, rfl, ry, rz⟩ := vals2 rv
  refine get_dct (xd := zv) (dd := z) (fd := g) hu J m r1 p1 rx ry hkin (fun dd zz w fq hd rz' hf rzw t => ?_) (fun hd t => ?_)
  · rcases hr with ⟨hg, ho⟩ | ⟨hg, _⟩
    · rw [hd] at hg
      cases hg
      exact ⟨zz, G, J.tok _, rzw, q zz G fp [] (fun _ _ h _ => h) (fun _ h => h) r1 (fp_nil rz' ho) (fun _ h => .inl h) (fun _ h => nomatch h)⟩
    · rw [hd] at hg; cases hg
  · rcases hr with ⟨hg, ho⟩ | ⟨_, rfl⟩
    · rw [hd] at hg; cases hg
    · exact ⟨zv, G, J.tok _, rz, q zv G fp g (fun _ _ h _ => h) (fun _ h => h) r1 p2 (fun _ h => .inl h) fun a ha => ⟨hn a (s2' a ha), .inr (.inl (s2' a ha))⟩⟩
end Z

set_option Elab.async false
set_option linter.all false
set_option maxRecDepth 100000
/-! sorted(d.items()). -/
namespace Z
open PySem PySem.Spec PyProof.Rows L2
section
variable {X : Cx} {pins : List (Addr × Obj)} {σ : L2.St}
theorem sorted_run3 {src : Value} {ds ys : List D} {F H : Hp} {s : Shared} {Q : VK} (I0 : Inv X pins σ H s) (m0 : ∀ a o, F a = some o → H a = some o) (hs : srtD ds = some ys) (hu : X.A.units + 200 < cLine)
    (hcol : ∀ (R : List Value → Shared → Prop) (E : Value → Shared → Prop), (∀ h' tk us vs F1 H1, Inv X pins σ H1 { s with heap := h', toks := tk } → Ext F H F1 H1 → Vals vs us → Reps X.kw F1 H1 vs ds [] → R us { s with heap := h', toks := tk }) → wpAny (model X.prog X.w) X.A.in1 (collect src) R E s)
    (q : ∀ F1 H1, Ext F H F1 H1 → ∀ p zs, H1 p = none → Reps X.kw F1 H1 zs ys [] → Q (.ref p) (upd H1 p (.lst zs))) : wpAny (model X.prog X.w) X.A (call (.builtin "sorted") [src]) (EP X pins σ Q) X.xe s := by
  unfold srtD at hs
  split at hs
  · rename_i hok
    cases hs
    rw [Bool.and_eq_true, decide_eq_true_eq] at hok
    obtain ⟨h0, h1, h2⟩ := srt_al hok.1
    refine Calls.call_function_entry PyProof.Rows.kind_sorted PyProof.Rows.plain_sorted PyProof.Rows.entry_sorted (PyProof.Rows.args_sorted1 _) ?_
    unfold Builtin.«sorted»
    refine wpAny_bind (m := checkCount "sorted" 1 1 _) (wpAny_pure ?_)
    refine wpAny_bind (hcol _ _ fun h' tk us vs F H I1 x rv p => ?_)
    have m := x.sub
    have hl := p.len
    have hlu := rv.length
    have hsz : us.length ≤ sizeLine := by rw [sl_eq]; omega
    refine wpAny_bind (wpAny_newList ?_ hsz)
    have hoL : (h'.push (seqObj "list" us.toArray 0)).get? h'.objs.size = some (seqObj "list" us.toArray 0) := Heap.get?_push_size _ rfl
    show wpAny _ _ _ _ _ { s with heap := h'.push (seqObj "list" us.toArray 0), toks := tk }
    have hk2 : ∀ b o, h'.get? b = some o → (PySem.W.sortingHeap (h'.push (seqObj "list" us.toArray 0)) h'.objs.size us).get? b = some o := fun b o e =>
      PySem.W.sortingHeap_old (Nat.ne_of_lt (Heap.lt_size e)) (Heap.get?_push_of_some _ e)
    obtain ⟨e1, e2⟩ := each_zip I1 m hk2 p rv h0
    have em : (vs.zip ds).map (fun b => b.2.py) = ds.map D.py := by
      have := congrArg (List.map D.py) (zip_snd hl)
      rw [List.map_map] at this
      exact this
    have hal : PySem.W.AllAlike ((vs.zip ds).map fun b => b.2.py) := by rw [em]; exact all_alike h1
    have S : PySem.W.SortsAt X.prog X.w X.A.in1.in1 { s with heap := PySem.W.sortingHeap (h'.push (seqObj "list" us.toArray 0)) h'.objs.size us, toks := tk } _ us :=
      PySem.W.SortsAt.data (s := { s with heap := PySem.W.sortingHeap (h'.push (seqObj "list" us.toArray 0)) h'.objs.size us, toks := tk }) (PySem.W.each_map (R := fun v d => ∃ as, Reads (PySem.W.sortingHeap (h'.push (seqObj "list" us.toArray 0)) h'.objs.size us) v d as) (fun b : V × D => b.2.py) e2) hal (by rw [em]; exact h2) fun d hd => by
        rw [em] at hd
        obtain ⟨x, hx, rfl⟩ := List.mem_map.mp hd
        have hx1 := dep_le64 h0 x hx
        have hx2 := py_dep x (by omega)
        show X.A.units + 1 + 1 + x.py.depth < cLine
        omega
    refine wpAny_bind (wpAny_holding (wpAny_call_entry PyProof.Rows.slot_list_sort ⟨_, hoL, rfl⟩ PyProof.Rows.entry_list_sort
      (PySem.W.list_sort_vals (s := { s with heap := h'.push (seqObj "list" us.toArray 0), toks := tk }) hoL S hsz ⟨_, rfl, ?_⟩) (PyProof.Rows.args_list_sort _)))
    have out := PySem.W.sortVals_data (h' := PySem.W.sortingHeap (h'.push (seqObj "list" us.toArray 0)) h'.objs.size us) false e1 e2 hal
    obtain ⟨e', he'⟩ := PyProof.Rows.sortedHeap_at (vs := us) (out := (PySem.W.sortVals (PySem.W.dataKind (PySem.W.sortingHeap (h'.push (seqObj "list" us.toArray 0)) h'.objs.size us) ((vs.zip ds).map fun b => b.2.py)) false us us).toArray) hoL
    have hrv := vals_each out
    have hmem : ∀ b ∈ (vs.zip ds).mergeSort (PySem.W.dataLe false fun b : V × D => b.2.py), Rep X.kw F H b.1 b.2 [] := fun b hb => zip_rep p b ((List.mergeSort_perm ..).mem_iff.mp hb)
    have hD : ((vs.zip ds).mergeSort (PySem.W.dataLe false fun b : V × D => b.2.py)).map (·.2) = ds.mergeSort leD := by
      rw [PySem.W.sort_maps (s := leD) (fun b : V × D => b.2), zip_snd hl]
      intro a ha b hb
      rw [PySem.W.dataLe_eq]
      exact leD_py h0 h1 a.2 (List.of_mem_zip (a := a.1) (b := a.2) ha).2 b.2 (List.of_mem_zip (a := b.1) (b := b.2) hb).2
    have hR := reps_zip hmem
    rw [hD] at hR
    have hlen : (((vs.zip ds).mergeSort (PySem.W.dataLe false fun b : V × D => b.2.py)).map (·.1)).length ≤ sizeLine := by
      rw [List.length_map, (List.mergeSort_perm ..).length_eq, List.length_zip, sl_eq]
      omega
    refine wpAny_pure ⟨_, rfl, .ref h'.objs.size, upd H h'.objs.size (.lst _), I1.laid (t' := tk) (fun b u e => ?_) (Nat.le_refl _)
      (show ObjOk X.prog X.w _ _ _ (.lst _) from ⟨hlen, _, e', hrv, he'⟩), rfl, q _ _ x _ _ (I1.hok.fresh (Nat.le_refl _)) hR⟩
    have hb : b < h'.objs.size := Heap.lt_size e
    rw [PyProof.Rows.sortedHeap_old (Nat.ne_of_lt hb) (by rw [size_push']; exact Nat.lt_succ_of_lt hb)]
    exact Heap.get?_push_of_some _ e
  · cases hs
/-- pairs that were made are tracked -/
theorem take_tups {F0 H0 : Hp} {s : Shared} {h' : Heap} {tk : Nat} (I0 : Inv X pins σ H0 s) : ∀ (L : List (Addr × V × V)) (F1 H1 : Hp), Inv X pins σ H1 { s with heap := h', toks := tk } → Ext F0 H0 F1 H1 → (L.map (·.1)).Nodup →
    (∀ x ∈ L, s.heap.objs.size ≤ x.1 ∧ H1 x.1 = none ∧ ∃ k v, RelV x.2.1 k ∧ RelV x.2.2 v ∧ h'.get? x.1 = some (tupO [k, v])) →
    ∃ F2 H2, Inv X pins σ H2 { s with heap := h', toks := tk } ∧ Ext F0 H0 F2 H2 ∧ (∀ b o, F1 b = some o → F2 b = some o) ∧ ∀ x ∈ L, TP X.kw F2 x.1 [x.2.1, x.2.2]
  | [], F1, H1, I1, e, _, _ => ⟨F1, H1, I1, e, fun _ _ e => e, fun _ h => nomatch h⟩
  | (a, kv, vv) :: L, F1, H1, I1, e, hn, h => by
    obtain ⟨hb, hnone, k, v, r1, r2, hg⟩ := h (a, kv, vv) (List.mem_cons_self ..)
    have I2 : Inv X pins σ (upd H1 a (.frz (tupO [k, v]) (.tup [kv, vv]))) { s with heap := h', toks := tk } :=
      I1.take (h' := h') (t' := tk) (fun b ob _ e => e) (I0.fpOk hb hnone) ⟨hg, by show 2 ≤ sizeLine; decide, [k, v], .cons r1 (.cons r2 .nil), ⟨_, hg, rfl, _, rfl⟩⟩
    have x2 := Ext.frz (o := .frz (tupO [k, v]) (.tup [kv, vv])) e.sub hnone
    rw [List.map_cons, List.nodup_cons] at hn
    obtain ⟨F2, H2, I3, e3, g3, q⟩ := take_tups I0 L _ _ I2 (e.trans x2) hn.2 fun c hc => by
      obtain ⟨c1, c2, c3⟩ := h c (List.mem_cons_of_mem _ hc)
      refine ⟨c1, ?_, c3⟩
      have hm : c.1 ∈ L.map (·.1) := List.mem_map_of_mem (f := fun z : Addr × V × V => z.1) hc
      rw [upd_ne (fun z => hn.1 (by rw [← z]; exact hm))]
      exact c2
    refine ⟨F2, H2, I3, e3, fun b o w => g3 b o ?_, fun c hc => ?_⟩
    · rw [upd_ne (fun z => by subst z; rw [e.sub _ _ w] at hnone; cases hnone)]; exact w
    · rcases List.mem_cons.mp hc with rfl | hc
      · exact TP.of (g3 _ _ upd_same) rfl rfl
      · exact q c hc
/-- the view d.items() -/
def rIt : V → List V → Hp → VK → Prop := fun x xs H Q => ∃ (a : Addr) (o : Obj), x = .ref a ∧ xs = [] ∧ H a = some (DO a o) ∧ (a == sysModules) = false ∧ (∃ es ep, o.ExactDict ∧ o.data = .dict es ep) ∧ ∀ p, H p = none → Q (.ref p) (upd H p (DX.itemsO p a))
theorem mt_it : MtR X "dict.items" rIt := by
  intro pp s1 τ G x xs v us Q J rx rxs h
  obtain ⟨a, o, rfl, rfl, ha, sm, ⟨es, ep, hx, hd⟩, q⟩ := h
  cases rx
  cases rxs
  refine DT.callItems (es := es) (ep := ep) sm ⟨o, do_get J ha, hx, hd⟩ ?_
  have hf : G s1.heap.objs.size = none := J.hok.fresh (Nat.le_refl _)
  exact ⟨.ref s1.heap.objs.size, _, J.laid (t' := s1.toks) (fun b u e => Heap.get?_push_of_some _ e) (Nat.le_refl _) (DX.itemsO_ok (Heap.get?_push_size _ rfl)), rfl, q _ hf⟩
def rSo (K : Kw) : V → Hp → VK → Prop := fun x H Q => ∃ (p a : Addr) (F : Hp) (b : Bool) (kvs : List (D × D)) (fp : List Addr) (ys : List D), x = .ref p ∧ H p = some (DX.itemsO p a) ∧ (∀ a o, F a = some o → H a = some o) ∧ Rep K F H (.ref a) (.dct b kvs) fp ∧ ownP kvs = false ∧ srtD (itemsOf kvs) = some ys ∧
  ∀ F1 H1, Ext F H F1 H1 → ∀ q zs, H1 q = none → Reps K F1 H1 zs ys [] → Q (.ref q) (upd H1 q (.lst zs))
theorem preps_noown {K : Kw} {F H : Hp} : ∀ {zs : List (V × V)} {ds : List (D × D)} {fp : List Addr}, PReps K F H zs ds fp → ownP ds = false → fp = []
  | [], _, _, h, _ => by cases h; rfl
  | (z1, z2) :: zs, [], _, h, _ => by cases h
  | (z1, z2) :: zs, (k1, d1) :: ds, fp, h, e => by
    have key : ∃ f1 f2, fp = f1 ++ f2 ∧ Rep K F H z2 d1 f1 ∧ PReps K F H zs ds f2 := by
      cases h with
      | cons p0 p1 p2 hd => exact ⟨_, _, rfl, p1, p2⟩
    obtain ⟨f1, f2, rfl, p1, p2⟩ := key
    simp only [ownP, Bool.or_eq_false_iff] at e
    rw [p1.noown e.2.1, preps_noown p2 e.2.2]
    rfl
/-- entries, one by one -/
theorem ents_in {K : Kw} {F H F2 H2 : Hp} : ∀ {as : List Addr} {zs : List Z3} {ds : List (D × D)}, PReps K F H (zs.map (·.2)) ds [] → as.length = zs.length → (∀ a o, F a = some o → F2 a = some o) → (∀ x ∈ as.zip (zs.map (·.2)), TP K F2 x.1 [x.2.1, x.2.2]) → Reps K F2 H2 (as.map V.ref) (itemsOf ds) []
  | [], [], [], _, _, _, _ => .nil
  | [], [], _ :: _, p, _, _, _ => by cases p
  | [], _ :: _, _, _, h, _, _ => by simp at h
  | _ :: _, [], _, _, h, _, _ => by simp at h
  | _ :: _, (_, _, _) :: _, [], p, _, _, _ => by cases p
  | a :: as, (zn, zk, zv) :: zs, (kd, dd) :: ds, p, h, m, t => by
    obtain ⟨p0, p1, p2⟩ := preps_inv p
    have ih := ents_in (H2 := H2) p2 (by simpa using h) m fun x hx => t x (List.mem_cons_of_mem _ hx)
    have t0 : TP K F2 a [zk, zv] := t (a, zk, zv) List.mem_cons_self
    exact Reps.cons0 (.tup t0 (Reps.cons0 (p0.mono m fun _ z => nomatch z) (Reps.cons0 (p1.mono m fun _ z => nomatch z) .nil))) ih
theorem cu_so (hc : X.calm = true) (hu : X.A.units + 200 < cLine) : CallR X (.builtin "sorted") (r1 (rSo X.kw)) := by
  intro pp s1 τ G xs us Q J rs h
  obtain ⟨x, rfl, p, a, F, b, kvs, fp, ys, rfl, hp, m, r, ho, hs, q⟩ := h
  obtain ⟨u, rfl, ru⟩ := vals1 rs
  obtain rfl : u = .ref p := ru
  have view : s1.heap.IsItemsView p a := (show ObjOk X.prog X.w G s1.heap p (DX.itemsO p a) from J.hok p _ hp).1
  obtain ⟨a', o, zs, fq, ea, dc, _, _⟩ := rep_dct m r
  cases ea
  obtain ⟨es, ep, e2, e3⟩ := dc.ok.es
  have hzl : zs.length = kvs.length := by have := congrArg List.length dc.k; simpa using this
  have hel : es.size = zs.length := by have := Paired.length e3; simpa using this.symm
  have hraw : DT.Raw s1.heap a es ep := ⟨o, do_get J dc.at_, dc.ok.ex, e2⟩
  have pr := dc.p
  obtain rfl := preps_noown pr ho
  refine sorted_run3 J m hs hu (fun R E hR => ?_) q
  refine DT.collectI (es := es) (ep := ep) (J.ok.hd hc) view hraw (by rw [hel]; exact dc.ok.sz) fun h' tk as hk hlt hl hG => ?_
  have J1 : Inv X pp τ G { s1 with heap := h', toks := tk } := J.kept (t' := tk) hk
  have nd : as.Nodup := List.Pairwise.imp (fun h => Nat.ne_of_lt h) hG.rise
  have lz : as.length = zs.length := by omega
  have at_ : ∀ x ∈ as.zip (zs.map (·.2)), x.1 ∈ as ∧ ∃ k v, RelV x.2.1 k ∧ RelV x.2.2 v ∧ h'.get? x.1 = some (tupO [k, v]) := fun x hx => by
    obtain ⟨j, hj⟩ := List.mem_iff_getElem?.mp hx
    obtain ⟨h1, h2⟩ := List.getElem?_zip_eq_some.mp hj
    obtain ⟨en, he, hg⟩ := hG.pairs j x.1 h1
    rw [List.getElem?_map, Option.map_eq_some_iff] at h2
    obtain ⟨z, h2, hz⟩ := h2
    have key : ∀ {zs : List Z3} {es : List DictEntry} {j : Nat} {z : Z3} {en : DictEntry}, Paired (EntD X.w) zs es → zs[j]? = some z → es[j]? = some en → EntD X.w z en := by
      intro zs es j z en pz
      induction pz generalizing j with
      | nil => intro e; simp at e
      | cons h t ih =>
        intro e1 e2
        cases j with
        | zero =>
          simp only [List.getElem?_cons_zero, Option.some.injEq] at e1 e2
          subst e1 e2
          exact h
        | succ j => exact ih (by simpa using e1) (by simpa using e2)
    obtain ⟨_, k1, k2⟩ := key e3 h2 (by rw [Array.getElem?_toList]; exact he)
    rw [← hz]
    exact ⟨List.mem_of_getElem? h1, en.key, en.val, k1, k2, hg⟩
  obtain ⟨F2, H2, J2, x2, g2, tp⟩ := take_tups (F0 := F) J (as.zip (zs.map (·.2))) F G J1 (Ext.refl m) (by rw [List.map_fst_zip (by rw [List.length_map]; omega)]; exact nd) fun x hx => by
    obtain ⟨h1, h2⟩ := at_ x hx
    exact ⟨Nat.le_of_lt (hG.above _ h1), J.hok.fresh (Nat.le_of_lt (hG.above _ h1)), h2⟩
  refine hR h' tk _ (as.map V.ref) F2 H2 J2 x2 ?_ (ents_in pr lz x2.f tp)
  have key : ∀ as : List Addr, Vals (as.map V.ref) (as.map Value.ref) := by
    intro as
    induction as with
    | nil => exact .nil
    | cons a as ih => exact .cons rfl ih
  exact key as
theorem tE_items {H : Hp} {Q : VK} {mv vw : List Nat} {f : Env → R D} (h : tE X.kw mv [] (fun s => (f s).bind fun x s => R.of (un1 .items x) s) σ H Q) :
    tCB (r1 (rSo X.kw)) (tCons (tBMQ X.kw 2 rIt (tE X.kw mv vw f) tNil) tNil) σ H Q := by
  obtain ⟨F, s, fps, R, h⟩ := h
  try dsimp only at h
  refine ⟨F, s, fps, R, ?_⟩
  cases e : f s with
  | exc x s' => rw [e] at h; exact h
  | bad => rw [e] at h; exact h
  | ok d s' =>
    rw [e] at h
    simp only [bind_ok] at h
    cases d <;> (try (simp only [un1, of_none] at h; done))
    rename_i b kvs
    simp only [un1] at h
    by_cases ho : ownP kvs = true
    · rw [if_pos ho] at h; exact h.elim
    · rw [if_neg ho] at h
      cases hs : srtD (itemsOf kvs) with
      | none => rw [hs] at h; exact h.elim
      | some ys =>
        rw [hs] at h
        simp only [Option.map_some, of_some] at h
        refine fun v H' F' fps' fp R' st rs => ⟨tyQ_of R'.sub rs.rep (by show (2 : Nat) ≠ 0; decide), ?_⟩
        obtain ⟨a, o, zs, fq, rfl, dc, hf, _⟩ := rep_dct R'.sub rs.rep
        obtain ⟨es, ep, e2, e3⟩ := dc.ok.es
        refine ⟨a, o, rfl, rfl, dc.at_, dc.ok.sm, ⟨es, ep, dc.ok.ex, e2⟩, fun p hp => ?_⟩
        have x := Ext.own (o := DX.itemsO p a) R'.sub hp
        refine ⟨.ref p, rfl, p, a, F', b, kvs, fp, ys, rfl, upd_same, x.sub, rs.rep.ext x, by simpa using ho, hs, fun F1 H1 x1 q ws hq hr => ?_⟩
        have y := x.trans x1
        have st2 := st.trans (y.stp (mv := []) (s := s') (fps := fps'))
        rw [List.append_nil] at st2
        exact give_lst (vf := false) (fp1 := []) y.sub hq hr (give_res (x := V.non) (d1 := D.non) (vwa := []) (R'.ext y) st2 ⟨.non, fun a z => nomatch z⟩ h)
end
end Z

set_option Elab.async false
set_option linter.all false
set_option maxRecDepth 100000
/-! isinstance(x, (tuple, list)). -/
namespace Z
open PySem PySem.Spec PyProof.Rows L2
theorem kit_seq {K : Kw} {F H : Hp} {v : V} {d : D} {fp : List Addr} (r : Rep K F H v d fp) : ∃ b1 b2, kitB (tyName d) "tuple" = some b1 ∧ kitB (tyName d) "list" = some b2 ∧ un1 .isSeq d = some (.bl (b1 || b2)) := by
  cases r <;> first
    | exact ⟨true, false, by dsimp only [tyName]; decide +kernel, by dsimp only [tyName]; decide +kernel, rfl⟩
    | exact ⟨false, true, by dsimp only [tyName]; decide +kernel, by dsimp only [tyName]; decide +kernel, rfl⟩
    | exact ⟨false, false, by dsimp only [tyName]; decide +kernel, by dsimp only [tyName]; decide +kernel, rfl⟩
section
variable {X : Cx} {p pos : Pos}
def rSeq (K : Kw) (a b : String) : List V → Hp → VK → Prop := fun xs H Q => ∃ x tp F d fp, xs = [x, .ref tp] ∧ H tp = some (.tup [.ty a, .ty b]) ∧ (∀ a o, F a = some o → H a = some o) ∧ Rep K F H x d fp ∧ ∀ z, un1 .isSeq d = some z → ∃ b, z = .bl b ∧ Q (.bl b) H
theorem cu_seq {a b : String} (h : (a = "tuple" ∧ b = "list") ∨ (a = "list" ∧ b = "tuple")) : CallR X (.builtin "isinstance") (rSeq X.kw a b) := by
  intro pins s σ H xs us Q I rs hq
  obtain ⟨x, tp, F, d, fp, rfl, ht, m, r1, q⟩ := hq
  obtain ⟨b1, b2, k1, k2, hu⟩ := kit_seq r1
  obtain ⟨b0, e, q⟩ := q _ hu
  cases e
  obtain ⟨u1, u2, rfl, ru, r2⟩ := vals2 rs
  cases (show u2 = Value.ref tp from r2)
  obtain ⟨P, Z, p, hx⟩ := rep_kit I m r1 ru
  obtain ⟨_, its, rv, o, h1, h2, n, h3⟩ := (show ObjOk X.prog X.w H s.heap tp (.tup [.ty a, .ty b]) from I.hok tp _ ht)
  have e3 : its = [.type a, .type b] := ClsV.all (.cons (.ty _) (.cons (.ty _) .nil)) rv
  subst e3
  obtain ⟨oc, od, dt, sl⟩ := o
  simp only at h2 h3
  subst h2 h3
  have ek : PySem.W.kitAny X.K (.type (tyName d)) [.type a, .type b] = some (b1 || b2) := by
    rcases h with ⟨rfl, rfl⟩ | ⟨rfl, rfl⟩
    · refine kitAny_cons (kit_ty k1) (fun e => kitAny_cons (kit_ty k2) (fun e2 => ?_) fun e2 => ?_) fun e => ?_
      · rw [e, e2]; exact kitAny_nil
      · rw [e2]; simp
      · rw [e]; rfl
    · refine kitAny_cons (kit_ty k2) (fun e => kitAny_cons (kit_ty k1) (fun e2 => ?_) fun e2 => ?_) fun e => ?_
      · rw [e, e2]; exact kitAny_nil
      · rw [e2]; rfl
      · rw [e]; simp
  exact PySem.W.kia_tup Z I.kIn p h1 ek hx fun tk => ⟨.bl _, H, I.tok tk, rfl, q⟩
theorem sb_seq {x y1 y2 : Str} {a b : String} {e : Expr} {p1 p2 p3 : Pos} {n3 : Nat} {mv vw : List Nat} {f : Env → R D} (hab : (a = "tuple" ∧ b = "list") ∨ (a = "list" ∧ b = "tuple")) (hx : x = "isinstance") (hg : Gl X x) (hm : X.mg x = none)
    (hg1 : Gl X y1) (hm1 : X.mg y1 = none) (hv1 : bootBuiltins y1 = some (.type a)) (hn1 : y1 ≠ "__name__") (hd1 : (y1 == ("__debug__" : Str)) = false)
    (hg2 : Gl X y2) (hm2 : X.mg y2 = none) (hv2 : bootBuiltins y2 = some (.type b)) (hn2 : y2 ≠ "__name__") (hd2 : (y2 == ("__debug__" : Str)) = false)
    (h : PE X e (tE X.kw mv vw f)) (hs : starEach [e, .Tuple [.Name y1 p1, .Name y2 p2] n3 p3] X.env = (false, eval e X.env) :: starEach [.Tuple [.Name y1 p1, .Name y2 p2] n3 p3] X.env) :
    PE X (.Call (.Name x p) [e, .Tuple [.Name y1 p1, .Name y2 p2] n3 p3] [] pos) (tE X.kw mv [] fun s => (f s).bind fun x s => R.of (un1 .isSeq x) s) := by
  subst hx
  have ht : PE X (.Tuple [.Name y1 p1, .Name y2 p2] n3 p3) _ := pe_tup (pa_cons (pe_bltn (v := .ty a) hg1 hm1 hv1 rfl hn1 hd1) (pa_cons (pe_bltn (v := .ty b) hg2 hm2 hv2 rfl hn2 hd2) pa_nil))
  refine pe_imp (pe_callB (cu_seq hab) hg hm PyProof.Rows.boot_isinstance (pa_cons h (pa_cons ht pa_nil) hs) (by decide) (by decide) hs rfl) fun σ H Q h => ?_
  obtain ⟨F, s, fps, R, h⟩ := h
  refine ⟨F, s, fps, R, ?_⟩
  try dsimp only at h ⊢
  cases ef : f s with
  | exc x s' => rw [ef] at h; exact h
  | bad => rw [ef] at h; exact h
  | ok d s' =>
    rw [ef] at h
    refine fun v H' F' fps' fp R' st rs => ⟨by rw [sl_eq]; exact (by decide : 2 ≤ SL), fun tp hp => ?_⟩
    have x := Ext.own (p := tp) (o := .tup [.ty a, .ty b]) R'.sub hp
    refine ⟨v, tp, F', d, fp, rfl, upd_same, x.sub, rs.rep.ext x, fun z hz => ?_⟩
    simp only [bind_ok] at h
    rw [hz] at h
    obtain ⟨_, _, _, _, hu⟩ := kit_seq rs.rep
    rw [hu] at hz
    cases hz
    refine ⟨_, rfl, ?_⟩
    exact give_res (vf := false) (vwa := vw) R' st rs h _ _ _ _ x (.bl _) fun a z => nomatch z
end
end Z

set_option Elab.async false
set_option linter.all false
set_option maxRecDepth 100000
/-! {}, x or y by truth, d.get(k, x), strip, [::-1], range(a, b, c), zip. -/
namespace Z
open PySem PySem.Spec PyProof.Rows L2
section
variable {X : Cx} {pos : Pos}
theorem pe_dnewX : PE X (.Dict [] [] pos) (fun _ H Q => ∀ p o, H p = none → DOk X.w o p [] → Q (.ref p) (upd H p (DO p o))) := ⟨fun pins s σ H Q I h =>
  wpAny_Dict_empty ⟨.ref s.heap.objs.size, _, I.laid (a := s.heap.objs.size) (o := DO s.heap.objs.size { cls := .type "dict", data := .dict #[] }) (t' := s.toks) (fun _ _ q => Heap.get?_push_of_some _ q) (Nat.le_refl _) (do_new (Heap.get?_push_size _ rfl)), rfl,
    h _ _ (I.hok.fresh (Nat.le_refl _)) ⟨⟨rfl, rfl, rfl⟩, ⟨#[], 0, rfl, .nil⟩, List.nodup_nil, by
      have h1 := I.big
      have : s.heap.objs.size ≠ sysModules := Nat.ne_of_gt h1
      simpa using this, Nat.zero_le _⟩⟩⟩
theorem se_dnew : PE X (.Dict [] [] pos) (tE X.kw [] [] fun s => .ok (.dct true []) s) := pe_imp pe_dnewX fun σ H Q h => by
  obtain ⟨F, s, fps, R, h⟩ := h
  refine fun p o hp ok => ?_
  have x := Ext.own (o := DO p o) R.sub hp
  have hfp : F p = none := by
    cases e : F p with
    | none => rfl
    | some o => rw [R.sub _ _ e] at hp; cases hp
  refine h (.ref p) _ _ fps [p] (R.ext x) (x.stp) ⟨.dctO (fp := []) upd_same hfp ok .nil rfl ⟨1, by decide, rfl⟩ (fun z => nomatch z), fun a ha => .inr ?_⟩
  have : a = p := List.mem_singleton.mp ha
  subst this
  refine ⟨fun j z => ?_, .inl hp⟩
  obtain ⟨_, w, hw, _⟩ := R.there z
  rw [hp] at hw; cases hw
/-- x or y, by truth -/
def fOrv (fa fb : Env → R D) : Env → R D := fun s => (fa s).bind fun x s => match truD x with
    | some true => .ok x s
    | some false => fb s
    | none => .bad
theorem tru_rep {K : Kw} {F H : Hp} {v : V} {d : D} {fp : List Addr} {k : Bool} (m : ∀ a o, F a = some o → H a = some o) (r : Rep K F H v d fp) (h : truD d = some k) : TruV K v H k := by
  cases d <;> simp only [truD, reduceCtorEq, Option.some.injEq] at h
  · subst h
    obtain ⟨rfl, _⟩ := rep_bl r
    exact rfl
  · subst h
    obtain ⟨a, vs, rfl, t0, t1, p1⟩ := rep_tup m r
    refine .inr (.inl ⟨vs, t1, ?_⟩)
    have := p1.len
    cases vs <;> cases ‹List D› <;> simp at this ⊢
  · subst h
    obtain ⟨a, vs, f0, rfl, t1, p1, hf⟩ := rep_lst m r
    refine .inl ⟨vs, t1, ?_⟩
    have := p1.len
    cases vs <;> cases ‹List D› <;> simp at this ⊢
theorem se_orv {a b : Expr} {mva vwa mvb vwb : List Nat} {fa fb : Env → R D} (ha : PE X a (tE X.kw mva vwa fa)) (hb : PE X b (tE X.kw mvb vwb fb)) :
    PE X (.BoolOp .Or [a, b] pos) (tE X.kw (mva ++ mvb) (vwa ++ vwb) (fOrv fa fb)) := pe_imp (pe_orT ha (pe_one hb)) fun σ H Q h => by
  obtain ⟨F, s, fps, R, h⟩ := h
  refine ⟨F, s, fps, R, ?_⟩
  try dsimp only [fOrv] at h
  cases e : fa s with
  | exc x s' => rw [e] at h; exact h
  | bad => rw [e] at h; exact h
  | ok d s' =>
    rw [e] at h
    simp only [bind_ok] at h
    refine fun v H' F' fps' fp R' st rs => ?_
    cases et : truD d with
    | none => rw [et] at h; exact h.elim
    | some k =>
      rw [et] at h
      refine ⟨k, tru_rep R'.sub rs.rep et, ?_⟩
      cases k with
      | true =>
        rw [if_pos rfl]
        exact h v H' F' fps' fp R' (st.weak mem_left) (res_weak rs mem_left mem_left)
      | false =>
        rw [if_neg Bool.false_ne_true]
        refine tE_later (mv1 := mva) (F := F) (H := H) (s := s) (fps := fps) R' st ?_
        try dsimp only at h ⊢
        cases eb : fb s' with
        | exc x s' => rw [eb] at h; exact h
        | bad => rw [eb] at h; exact h
        | ok d2 s2 =>
          rw [eb] at h
          exact fun v H2 F2 fps2 fp2 R2 st2 rs2 => h v H2 F2 fps2 fp2 R2 st2 (res_weak rs2 (fun _ z => z) mem_right)
/-! strip -/
theorem strip_S (s cs : List Nat) : Txt.stripChars (SX.S s) (SX.S cs) = SX.S (stripB cs s) := by
  have hp : ((SX.S cs).cps.contains : Nat → Bool) = fun c => cs.contains c := by
    funext c
    simp
  unfold Txt.stripChars Txt.stripBy
  rw [hp]
  have key : stripped (fun c => cs.contains c) true true (SX.S s) = SX.S (stripB cs s) := by
    unfold stripped stripB Builtin.Str.strSub stripLo stripHi
    simp only [if_true]
    have e1 : (SX.S s).cps.toList = s := by simp
    try rw [e1]
    have hl : (SX.S s).length = s.length := SX.S_len s
    rw [hl]
    have e2 : ∀ i j : Nat, ((SX.S s).cps.extract i j).toList = (s.drop i).take (j - i) := fun i j => by simp [List.extract_eq_take_drop]
    apply congrArg Str.mk
    apply Array.toList_inj.mp
    rw [e2]
    simp only [List.length_drop]
    congr 1
    omega
  split
  · rename_i h
    unfold stripSame at h
    rw [Bool.and_eq_true, beq_iff_eq, beq_iff_eq] at h
    rw [← key]
    unfold stripped
    rw [h.2, h.1]
    unfold Builtin.Str.strSub
    have hl : (SX.S s).length = s.length := SX.S_len s
    rw [hl]
    apply congrArg Str.mk
    apply Array.toList_inj.mp
    simp
  · exact key
theorem stripB_mem {cs s : List Nat} {c : Nat} (h : c ∈ stripB cs s) : c ∈ s := List.mem_of_mem_drop (List.mem_of_mem_take h)
theorem mu_strip : MtR X "str.strip" (m1 (rO X.kw (op2 .strip) false)) := by
  intro pins s σ H x xs v us Q I rx rs h
  obtain ⟨y, rfl, F, d1, fp1, d2, fp2, d, m, r1, r2, e, q⟩ := h
  cases d1 <;> cases d2 <;> (try (simp only [op2, reduceCtorEq] at e; done))
  rename_i z w
  simp only [op2] at e
  split at e
  · rename_i hl
    cases e
    obtain ⟨rfl, _, a1⟩ := rep_str r1
    obtain ⟨rfl, _, a2⟩ := rep_str r2
    refine mt_stripChars pins s σ H _ _ v us Q I rx rs ⟨_, _, rfl, rfl, by rw [SX.S_len, sl_eq]; exact hl, ?_⟩
    rw [strip_S]
    exact give_str m (asc_mem.mpr fun c hc => asc_mem.mp a1 c (stripB_mem hc)) q
  · cases e
theorem strip_str : ∀ x y d, op2 .strip x y = some d → ∃ z, x = .str z := by
  intro x y d h
  cases x <;> first | exact ⟨_, rfl⟩ | (simp [op2] at h)
/-! [::-1] of a list -/
theorem reps_rev0 {K : Kw} {F H : Hp} {vs : List V} {ds : List D} (h : Reps K F H vs ds []) : Reps K F H vs.reverse ds.reverse [] := by
  induction vs generalizing ds with
  | nil =>
    cases ds with
    | nil => exact .nil
    | cons _ _ => have := h.len; simp at this
  | cons v vs ih =>
    cases ds with
    | nil => have := h.len; simp at this
    | cons d ds =>
      obtain ⟨h1, h2⟩ := h.inv0
      rw [List.reverse_cons, List.reverse_cons]
      exact (ih h2).app0 (Reps.cons0 h1 .nil)
theorem pe_or' {e : Expr} {t t' : TE} (h : PE X e t) (h' : PE X e t') : PE X e (fun σ H Q => t σ H Q ∨ t' σ H Q) := ⟨fun pins s σ H Q I q => by
  rcases q with q | q
  · exact h.run pins s σ H Q I q
  · exact h'.run pins s σ H Q I q⟩
end
end Z

set_option Elab.async false
set_option linter.all false
set_option maxRecDepth 100000
/-! x is True; enumerate(text); range(a, b, -1). -/
namespace Z
open PySem PySem.Spec PyProof.Rows L2
section
variable {X : Cx}
theorem or_is : OpR X (compareOp .Is) (rO X.kw (op2 .is) false) := by
  intro pins s σ H x y v u Q I rx ry h
  obtain ⟨F, d1, fp1, d2, fp2, d, m, r1, r2, e, q⟩ := h
  cases d1 <;> cases d2 <;> (try (simp only [op2, reduceCtorEq] at e; done))
  simp only [op2, Option.some.injEq] at e
  subst e
  obtain ⟨rfl, _⟩ := rep_bl r1
  obtain ⟨rfl, _⟩ := rep_bl r2
  exact op_is_bl pins s σ H _ _ v u Q I rx ry ⟨_, _, rfl, rfl, give_bl m q⟩
theorem or_isnot : OpR X (compareOp .IsNot) (rO X.kw (op2 .isnot) false) := by
  intro pins s σ H x y v u Q I rx ry h
  obtain ⟨F, d1, fp1, d2, fp2, d, m, r1, r2, e, q⟩ := h
  cases d1 <;> cases d2 <;> (try (simp only [op2, reduceCtorEq] at e; done))
  simp only [op2, Option.some.injEq] at e
  subst e
  obtain ⟨rfl, _⟩ := rep_bl r1
  obtain ⟨rfl, _⟩ := rep_bl r2
  exact op_isnot_bl pins s σ H _ _ v u Q I rx ry ⟨_, _, rfl, rfl, give_bl m q⟩
/-! enumerate(text) -/
def Itse (x : Str) : It :=
  ⟨fun i _ => i < x.cps.size, fun i H v H' => ∃ T c us, v = .ref T ∧ H T = none ∧ H' = upd H T (.frz (tupO us) (.tup [.int (i : Nat), .str ⟨#[c]⟩])) ∧ x.cps[i]? = some c, fun i _ => x.cps.size ≤ i⟩
theorem turn_enumS {P : Program} {w : World} {K : PySem.W.Frag} {elts : List Expr} {kk : Nat} {tpos : Pos} (x : Str) (t : Tok) (e it : Addr) :
    Turn P w K (.Tuple elts kk tpos) (Itse x) [e, it] e (fun i h => (∃ old, IsEnum h e it ((i : Nat) : Int) old) ∧ h.IsStrIter it "str_ascii_iterator" x t i ∧ e ≠ it ∧ i ≤ x.cps.size) where
  mem := by simp
  obj := fun i h st b hb => by
    obtain ⟨⟨old, he⟩, ⟨o, ho, hc, hd⟩, _⟩ := st
    have e' : b = e ∨ b = it := by simpa using hb
    rcases e' with z | z
    · rw [z]; exact ⟨_, he, fun v q => nomatch q⟩
    · rw [z]; exact ⟨o, ho, fun v q => by rw [hd] at q; cases q⟩
  keep := fun i h h' st k => let ⟨⟨old, he⟩, ⟨o, ho, r⟩, hne, hle⟩ := st; ⟨⟨old, k e (by simp) _ he⟩, ⟨o, k it (by simp) o ho, r⟩, hne, hle⟩
  item := by
    intro X hP hw hK hc i pins s σ H E I hf st hg
    subst hP hw hK
    obtain ⟨⟨old, he⟩, hit, hne, hle⟩ := st
    have hel : e < s.heap.objs.size := Heap.lt_size he
    have hil : it < s.heap.objs.size := by obtain ⟨_, q, _⟩ := hit; exact Heap.lt_size q
    refine wpAny_pyNext_enum_itemD (Draws.strAscii (A := X.A.in1) (I.ok.hd hc) it x t) he hit hg hne (by simpa using hne) fun u h' tk hP ho hit' hT hsz hk => ?_
    obtain ⟨c, tu, hcx, rfl⟩ := hP
    refine ⟨_, rfl, wpAny_letOwnedTupleGo_enum (s := { s with heap := h', toks := tk + 1 }) ho fun h'' he' sb => ?_⟩
    have hT2 : h''.get? s.heap.objs.size = some { cls := .type "tuple", data := .seq #[.int i tk, .str ⟨#[c]⟩ tu] } := (sb.2 _ (Nat.ne_of_gt hel)).trans hT
    have new : ObjOk X.prog X.w (upd H s.heap.objs.size (.frz (tupO [.int i tk, .str ⟨#[c]⟩ tu]) (.tup [.int (i : Nat), .str ⟨#[c]⟩]))) h'' s.heap.objs.size (.frz (tupO [.int i tk, .str ⟨#[c]⟩ tu]) (.tup [.int (i : Nat), .str ⟨#[c]⟩])) :=
      ⟨hT2, by show 2 ≤ sizeLine; decide, [.int i tk, .str ⟨#[c]⟩ tu], .cons ⟨_, rfl⟩ (.cons ⟨_, rfl⟩ .nil), ⟨_, hT2, rfl, _, rfl⟩⟩
    have I1 : Inv X pins σ (upd H s.heap.objs.size (.frz (tupO [.int i tk, .str ⟨#[c]⟩ tu]) (.tup [.int (i : Nat), .str ⟨#[c]⟩]))) { s with heap := h'', toks := tk + 1 } :=
      I.turnedNew (ch := [e, it]) (fun b ob hb q => (sb.2 b (fun z => hb (by simp [z]))).trans (hk b ob (fun z => hb (by simp [z])) (fun z => hb (by simp [z])) q)) hf (Nat.le_refl _) new
    refine ⟨.ref s.heap.objs.size, _, I1, rfl, ⟨_, c, _, rfl, I.hok.fresh (Nat.le_refl _), rfl, hcx⟩, ⟨⟨.str ⟨#[c]⟩ tu, ?_⟩, ?_, hne, hg⟩, fun b hb => ?_⟩
    · have e1 : ((i + 1 : Nat) : Int) = (i : Int) + 1 := by omega
      rw [e1]; exact he'
    · obtain ⟨o, q, r⟩ := hit'
      exact ⟨o, (sb.2 it (Ne.symm hne)).trans q, r⟩
    · have hb' : b < s.heap.objs.size := by
        have e' : b = e ∨ b = it := by simpa using hb
        rcases e' with z | z
        · rw [z]; exact hel
        · rw [z]; exact hil
      rw [upd_ne (Nat.ne_of_lt hb')]
      exact (hf b hb).1
  done := by
    intro X hP hw hK hc i pins s σ H E I hf st hg
    subst hP hw hK
    obtain ⟨⟨old, he⟩, hit, hne, hle⟩ := st
    obtain rfl : i = x.cps.size := Nat.le_antisymm hle hg
    obtain ⟨f0, f1, f2, f3, f4, f5⟩ := hf it (by simp)
    exact wpAny_pyNext_enum_endD (Draws.strAscii (A := X.A.in1) (I.ok.hd hc) it x t) he hit fun h' eb => ⟨rfl, I.turned (t' := s.toks) (fun b o hb q => eb b o hb q) f0 f1 f3 f4 f5⟩
  self := fun A i s Q E st h => let ⟨⟨_, he⟩, _⟩ := st; wpAny_pyIter_enum he h
def iEnumS (ta : TA) : TI := fun σ H R => ta σ H fun vs H1 => ∃ x : Str, vs = [.str x] ∧ x.cps.all (· < 128) = true ∧ R (Itse x) H1
theorem pi_enumS {e : Expr} {ta : TA} {p pos tpos : Pos} {elts : List Expr} {kk : Nat} (hg : Gl X "enumerate") (hm : X.mg "enumerate" = none) (ha : PA X [e] ta) (hs : starEach [e] X.env = [(false, eval e X.env)]) :
    PI X (.Tuple elts kk tpos) (.Call (.Name "enumerate" p) [e] [] pos) (iEnumS ta) := by
  refine ⟨fun pins s σ H R I h => ?_⟩
  refine Call_ (ld_blt I hg hm boot_enumerate (PyProof.Rows.callWith_type1 (thn (ha.run pos pins s σ H _ I h) fun us s1 ⟨vs, H1, I1, r1, q1⟩ => ?_) hs rfl))
  obtain ⟨x, ex, hx, q⟩ := q1
  subst ex
  cases r1 with
  | cons r rr =>
    cases rr
    obtain ⟨t, rfl⟩ := r
    refine call_enumerate_str fun h' he hit hsz hk => wpAny_pyIter_enum he ?_
    have I2 : Inv X pins σ H1 { s1 with heap := h' } := I1.kept (t' := s1.toks) hk
    have ety : strIterType x = "str_ascii_iterator" := by unfold strIterType; rw [if_pos hx]
    rw [ety] at hit
    refine ⟨s1.heap.objs.size + 1, [s1.heap.objs.size + 1, s1.heap.objs.size], _, _, H1, rfl, I2, turn_enumS x t (s1.heap.objs.size + 1) s1.heap.objs.size, ⟨⟨.none, he⟩, hit, Nat.succ_ne_self _, Nat.zero_le _⟩, fun b hb => ?_, q⟩
    have e' : b = s1.heap.objs.size + 1 ∨ b = s1.heap.objs.size := by simpa using hb
    have hle : s1.heap.objs.size ≤ b := by
      rcases e' with z | z
      · rw [z]; exact Nat.le_add_right _ _
      · rw [z]; exact Nat.le_refl _
    exact I1.fpOk hle (I1.hok.fresh hle)
theorem enumD_get : ∀ (xs : List D) (k : Int) (i : Nat), (enumD k xs)[i]? = xs[i]?.map fun x => .tup [.int (k + i), x]
  | [], _, _ => by simp [enumD]
  | x :: xs, k, 0 => by simp [enumD]
  | x :: xs, k, i + 1 => by
    have := enumD_get xs (k + 1) i
    simp only [enumD, List.getElem?_cons_succ, this]
    congr 1
    funext x
    have e : k + 1 + (i : Int) = k + ((i + 1 : Nat) : Int) := by omega
    rw [e]
theorem enumD_len : ∀ (xs : List D) (k : Int), (enumD k xs).length = xs.length
  | [], _ => rfl
  | x :: xs, k => by simp [enumD, enumD_len xs]
theorem itse_ok {F H : Hp} {z : List Nat} (hz : asc z = true) : ItOk X.kw (Itse (SX.S z)) [] F H (enumD 0 (z.map fun c => .str [c])) := by
  refine ⟨fun i F2 H2 h1 h2 h3 d e => ?_, fun i F2 H2 h1 h2 h3 e => ?_⟩
  · rw [enumD_get] at e
    simp only [List.getElem?_map, Option.map_eq_some_iff] at e
    obtain ⟨_, ⟨c, e1, rfl⟩, rfl⟩ := e
    have hi : i < z.length := (List.getElem?_eq_some_iff.mp e1).1
    have e2 : (SX.S z).cps[i]? = some c := by simpa using e1
    refine ⟨by show i < z.toArray.size; simpa using hi, fun x H3 y => ?_⟩
    obtain ⟨T, c', us, rfl, hT, rfl, e3⟩ := y
    rw [e2] at e3
    cases e3
    have x := Ext.frz (o := .frz (tupO us) (.tup [.int (i : Nat), .str ⟨#[c]⟩])) h2 hT
    refine ⟨_, x, .tup (TP.of upd_same rfl rfl) ?_⟩
    have e0 : (0 : Int) + (i : Int) = (i : Nat) := by omega
    rw [e0]
    exact Reps.cons0 (.int _) (Reps.cons0 (.str [c] (by simp [asc, asc_mem.mp hz c (List.mem_of_getElem? e1)])) .nil)
  · rw [enumD_len, List.length_map] at e
    show z.toArray.size ≤ i
    simpa using e
def fEnum (f : Env → R D) : Env → R (List D) := fun s => (f s).bind fun x s => match x with
  | .str z => if z.length ≤ SL then .ok (enumD 0 (z.map fun c => .str [c])) s else .bad
  | .lst _ xs => if ownL xs then .bad else .ok (enumD 0 xs) s
  | _ => .bad
/-! enumerate(a list) -/
def Iten (K : PySem.W.Frag) (a : Addr) : It :=
  ⟨fun i H => ∃ (xs : List V) (x : V), SqL K H a xs ∧ xs[i]? = some x, fun i H v H' => ∃ T x us, v = .ref T ∧ H T = none ∧ H' = upd H T (.frz (tupO us) (.tup [.int (i : Nat), x])) ∧ ∀ xs, SqL K H a xs → xs[i]? = some x, fun i H => ∃ xs : List V, SqL K H a xs ∧ xs.length ≤ i⟩
theorem turn_enumL {P : Program} {w : World} {K : PySem.W.Frag} {elts : List Expr} {kk : Nat} {tpos : Pos} (a e it : Addr) :
    Turn P w K (.Tuple elts kk tpos) (Iten K a) [e, it] e (fun i h => (∃ old, IsEnum h e it ((i : Nat) : Int) old) ∧ h.IsListIter it a i ∧ e ≠ it) where
  mem := by simp
  obj := fun i h st b hb => by
    obtain ⟨⟨old, he⟩, ⟨o, ho, hc, hd⟩, _⟩ := st
    have e' : b = e ∨ b = it := by simpa using hb
    rcases e' with z | z
    · rw [z]; exact ⟨_, he, fun v q => nomatch q⟩
    · rw [z]; exact ⟨o, ho, fun v q => by rw [hd] at q; cases q⟩
  keep := fun i h h' st k => let ⟨⟨old, he⟩, hi, hne⟩ := st; ⟨⟨old, k e (by simp) _ he⟩, hi.at fun o q => k it (by simp) o q, hne⟩
  item := by
    intro X hP hw hK hc i pp s1 τ G E J hf st hg
    subst hP hw hK
    obtain ⟨⟨old, he⟩, hit, hne⟩ := st
    obtain ⟨xs, x, hq, hx⟩ := hg
    obtain ⟨its, rv, p, hz⟩ := J.list hq
    obtain ⟨u, hu, ru⟩ := rv.get hx
    have hel : e < s1.heap.objs.size := Heap.lt_size he
    have hil : it < s1.heap.objs.size := by obtain ⟨_, q, _⟩ := hit; exact Heap.lt_size q
    refine wpAny_pyNext_enum_item he hit p.isList (x := u) (by simpa using hu) hne fun h' ho hit' hT hsz hk => ?_
    refine ⟨_, rfl, wpAny_letOwnedTupleGo_enum (s := { s1 with heap := h', toks := s1.toks + 1 }) ho fun h'' he' sb => ?_⟩
    have hT2 : h''.get? s1.heap.objs.size = some (tupO [.int i s1.toks, u]) := (sb.2 _ (Nat.ne_of_gt hel)).trans hT
    have new : ObjOk X.prog X.w (upd G s1.heap.objs.size (.frz (tupO [.int i s1.toks, u]) (.tup [.int (i : Nat), x]))) h'' s1.heap.objs.size (.frz (tupO [.int i s1.toks, u]) (.tup [.int (i : Nat), x])) :=
      ⟨hT2, by show 2 ≤ sizeLine; decide, [.int i s1.toks, u], .cons ⟨_, rfl⟩ (.cons ru .nil), ⟨_, hT2, rfl, _, rfl⟩⟩
    have J1 : Inv X pp τ (upd G s1.heap.objs.size (.frz (tupO [.int i s1.toks, u]) (.tup [.int (i : Nat), x]))) { s1 with heap := h'', toks := s1.toks + 1 } :=
      J.turnedNew (ch := [e, it]) (fun b ob hb q => (sb.2 b (fun z => hb (by simp [z]))).trans (hk b ob (fun z => hb (by simp [z])) (fun z => hb (by simp [z])) q)) hf (Nat.le_refl _) new
    refine ⟨.ref s1.heap.objs.size, _, J1, rfl, ⟨_, x, _, rfl, J.hok.fresh (Nat.le_refl _), rfl, fun ys hy => by rw [J.list_inj hy hq]; exact hx⟩, ⟨⟨u, ?_⟩, hit'.at fun o q => (sb.2 it (Ne.symm hne)).trans q, hne⟩, fun b hb => ?_⟩
    · have e1 : ((i + 1 : Nat) : Int) = (i : Int) + 1 := by omega
      rw [e1]; exact he'
    · have hb' : b < s1.heap.objs.size := by
        have e' : b = e ∨ b = it := by simpa using hb
        rcases e' with z | z
        · rw [z]; exact hel
        · rw [z]; exact hil
      rw [upd_ne (Nat.ne_of_lt hb')]
      exact (hf b hb).1
  done := by
    intro X hP hw hK hc i pp s1 τ G E J hf st hg
    subst hP hw hK
    obtain ⟨⟨old, he⟩, hit, hne⟩ := st
    obtain ⟨xs, hq, hx⟩ := hg
    obtain ⟨its, rv, p, hz⟩ := J.list hq
    obtain ⟨f0, f1, f2, f3, f4, f5⟩ := hf it (by simp)
    have hl := rv.length
    exact wpAny_pyNext_enum_end (J.ok.hd hc) he hit p.isList (by simp; omega) fun h' eb => ⟨rfl, J.turned (t' := s1.toks) (fun b o hb q => eb b o hb q) f0 f1 f3 f4 f5⟩
  self := fun A i s1 Q E st h => let ⟨⟨_, he⟩, _⟩ := st; wpAny_pyIter_enum he h
def iEnumL (K : PySem.W.Frag) (ta : TA) : TI := fun σ H R => ta σ H fun vs H1 => ∃ a xs, vs = [.ref a] ∧ SqL K H1 a xs ∧ R (Iten K a) H1
theorem pi_enumL {e : Expr} {ta : TA} {p pos tpos : Pos} {elts : List Expr} {kk : Nat} (hg : Gl X "enumerate") (hm : X.mg "enumerate" = none) (ha : PA X [e] ta) (hs : starEach [e] X.env = [(false, eval e X.env)]) :
    PI X (.Tuple elts kk tpos) (.Call (.Name "enumerate" p) [e] [] pos) (iEnumL X.K ta) := by
  refine ⟨fun pp s0 τ G R J h => ?_⟩
  refine Call_ (ld_blt J hg hm boot_enumerate (PyProof.Rows.callWith_type1 (thn (ha.run pos pp s0 τ G _ J h) fun us s1 ⟨vs, G1, J1, r1, q1⟩ => ?_) hs rfl))
  obtain ⟨a, xs, ex, hq, q⟩ := q1
  subst ex
  cases r1 with
  | cons r rr =>
    cases rr
    cases r
    obtain ⟨its, rv, p', hz⟩ := J1.list hq
    refine call_enumerate_list p'.isList fun h' he hit hsz hk => wpAny_pyIter_enum he ?_
    have J2 : Inv X pp τ G1 { s1 with heap := h' } := J1.kept (t' := s1.toks) hk
    refine ⟨s1.heap.objs.size + 1, [s1.heap.objs.size + 1, s1.heap.objs.size], _, _, G1, rfl, J2, turn_enumL a (s1.heap.objs.size + 1) s1.heap.objs.size, ⟨⟨.none, he⟩, hit, Nat.succ_ne_self _⟩, fun b hb => ?_, q⟩
    have e' : b = s1.heap.objs.size + 1 ∨ b = s1.heap.objs.size := by simpa using hb
    have hle : s1.heap.objs.size ≤ b := by
      rcases e' with z | z
      · rw [z]; exact Nat.le_add_right _ _
      · rw [z]; exact Nat.le_refl _
    exact J1.fpOk hle (J1.hok.fresh hle)
theorem iten_ok {K : Kw} {F H : Hp} {a : Addr} {vs : List V} {ds : List D} {pr : List Addr} (hs : ∀ F2 H2 : Hp, (∀ a o, F a = some o → F2 a = some o) → (∀ a o, F2 a = some o → H2 a = some o) → (∀ a ∈ pr, ∀ o, H a = some o → H2 a = some o) → SqL K H2 a vs) (r : Reps K F H vs ds []) : ItOk K (Iten K a) pr F H (enumD 0 ds) := by
  refine ⟨fun i F2 H2 h1 h2 h3 d e => ?_, fun i F2 H2 h1 h2 h3 e => ?_⟩
  · have hq := hs F2 H2 h1 h2 h3
    rw [enumD_get, Option.map_eq_some_iff] at e
    obtain ⟨d0, e, rfl⟩ := e
    obtain ⟨v, fq, e1, r1, m⟩ := r.at_ e
    have : fq = [] := by
      cases fq with
      | nil => rfl
      | cons x _ => exact absurd (m x List.mem_cons_self) (fun z => nomatch z)
    subst this
    refine ⟨⟨vs, v, hq, e1⟩, fun x H3 y => ?_⟩
    obtain ⟨T, x0, us, rfl, hT, rfl, y⟩ := y
    have q := y vs hq
    rw [e1] at q
    cases q
    have x := Ext.frz (o := .frz (tupO us) (.tup [.int (i : Nat), v])) h2 hT
    refine ⟨_, x, .tup (TP.of upd_same rfl rfl) ?_⟩
    have e0 : (0 : Int) + (i : Int) = (i : Nat) := by omega
    rw [e0]
    exact Reps.cons0 (.int _) (Reps.cons0 (r1.still fun b o w => x.f b o (h1 b o w)) .nil)
  · refine ⟨vs, hs F2 H2 h1 h2 h3, ?_⟩
    rw [enumD_len] at e
    rw [r.len]; exact e
theorem sr_enum {a : Expr} {elts : List Expr} {kk : Nat} {tpos p pos : Pos} {mv vw : List Nat} {f : Env → R D} (hg : Gl X "enumerate") (hm : X.mg "enumerate" = none) (h : PE X a (tE X.kw mv vw f)) (hs : starEach [a] X.env = [(false, eval a X.env)]) :
    PI X (.Tuple elts kk tpos) (.Call (.Name "enumerate" p) [a] [] pos) (tR X.kw mv vw (fEnum f)) := pi_imp (pi_or (pi_enumS hg hm (sa_1 h hs) hs) (pi_enumL hg hm (sa_1 h hs) hs)) fun σ H Rw h => by
  obtain ⟨F, s, fps, R, h⟩ := h
  try dsimp only [fEnum] at h
  cases e : f s with
  | exc x s' => rw [e] at h; exact h.elim
  | bad => rw [e] at h; exact h.elim
  | ok d s1 =>
    rw [e] at h
    simp only [bind_ok] at h
    cases d <;> (try (exact h.elim))
    · rename_i z
      refine .inl ⟨F, s, fps, R, ?_⟩
      rw [e]
      refine fun v H1 F1 fps1 fp R1 st1 rs => ?_
      try dsimp only at h
      by_cases hz : z.length ≤ SL
      · rw [if_pos hz] at h
        obtain ⟨rfl, _, az⟩ := rep_str rs.rep
        refine ⟨_, rfl, ?_, h (Itse (SX.S z)) [] H1 F1 fps1 R1 st1 (itse_ok az) fun a ha => nomatch ha⟩
        have : (z.toArray.all fun c => decide (c < 128)) = true := by
          have := az
          unfold asc at this
          simpa using this
        exact this
      · rw [if_neg hz] at h; exact h.elim
    · rename_i o xs
      refine .inr ⟨F, s, fps, R, ?_⟩
      rw [e]
      refine fun v H1 F1 fps1 fp R1 st1 rs => ?_
      try dsimp only at h
      cases ho : ownL xs with
      | true => simp only [ho, if_true] at h
      | false =>
        simp only [ho, Bool.false_eq_true, if_false] at h
        have fr := rs.fr
        cases rs.rep with
        | lstF t p =>
          exact ⟨_, _, rfl, sqL_mono t R1.sub, h (Iten X.kw _) [] H1 F1 fps1 R1 st1 (iten_ok (fun F2 H2 h1 h2 _ => sqL_mono (sqL_mono t h1) h2) p) fun a ha => nomatch ha⟩
        | @lstO a vs _ fp0 t hf p hn =>
          have p1 := fps_nil p ho
          refine ⟨a, _, rfl, SqL.of t, h (Iten X.kw a) [a] H1 F1 fps1 R1 st1 (iten_ok (fun F2 H2 _ _ h3 => SqL.of (h3 a List.mem_cons_self _ t)) p1) fun b hb => ?_⟩
          have : b = a := List.mem_singleton.mp hb
          subst this
          refine ⟨⟨_, t⟩, ?_⟩
          rcases fr b List.mem_cons_self with q | q
          · exact .inl q
          · exact .inr q.1
/-! range(a, b, -1) -/
theorem rangeDown_get : ∀ (n : Nat) (lo : Int) (i : Nat) (d : D), (rangeDown lo n)[i]? = some d → i < n ∧ d = .int (lo + i * (-1))
  | 0, _, _, _, h => by simp [rangeDown] at h
  | n + 1, lo, 0, d, h => by simp [rangeDown] at h; subst h; exact ⟨by omega, by simp⟩
  | n + 1, lo, i + 1, d, h => by
    obtain ⟨h1, h2⟩ := rangeDown_get n (lo - 1) i d (by simpa [rangeDown] using h)
    refine ⟨by omega, ?_⟩
    rw [h2]
    congr 1
    omega
theorem rangeDown_len : ∀ (n : Nat) (lo : Int), (rangeDown lo n).length = n
  | 0, _ => rfl
  | n + 1, lo => by simp [rangeDown, rangeDown_len n]
theorem itc_ok {F H : Hp} {lo : Int} {n : Nat} : ItOk X.kw (Itc lo (-1) n) [] F H (rangeDown lo n) := by
  refine ⟨fun i F2 H2 h1 h2 h3 d e => ?_, fun i F2 H2 h1 h2 h3 e => ?_⟩
  · obtain ⟨h, rfl⟩ := rangeDown_get n lo i d e
    refine ⟨h, fun x H3 y => ?_⟩
    obtain ⟨rfl, rfl⟩ := y
    exact ⟨F2, Ext.refl h2, .int _⟩
  · rw [rangeDown_len] at e
    exact e
def fRng3 (f : Env → R (List D)) : Env → R (List D) := fun s => (f s).bind fun vs s => match vs with
  | [.int i, .int j, .int k] => R.of (rng3 i j k) s
  | _ => .bad
def rng3L (vs : List D) : Option (List D) := match vs with
  | [.int i, .int j, .int k] => rng3 i j k
  | _ => none
theorem fRng3_eq (f : Env → R (List D)) : fRng3 f = fun s => (f s).bind fun vs s => R.of (rng3L vs) s := by
  funext s
  unfold fRng3
  congr 1
  funext vs s
  unfold rng3L
  split <;> rfl
theorem sr_rng3 {tg a b c : Expr} {p pos : Pos} {mv : List Nat} {f : Env → R (List D)} (hg : Gl X "range") (hm : X.mg "range" = none) (h : PA X [a, b, c] (tA X.kw mv f))
    (hs : starEach [a, b, c] X.env = (false, eval a X.env) :: starEach [b, c] X.env) (hpl : (backTo pos (starEach [b, c] X.env)).any (·.1) = false) : PI X tg (.Call (.Name "range" p) [a, b, c] [] pos) (tR X.kw mv [] (fRng3 f)) :=
  pi_imp (pi_range3 hg hm h hs hpl) fun σ H Rw h => by
  obtain ⟨F, s, fps, R, h⟩ := h
  refine ⟨F, s, fps, R, ?_⟩
  rw [fRng3_eq] at h
  try dsimp only at h
  cases e : f s with
  | exc x s' => rw [e] at h; exact h
  | bad => rw [e] at h; exact h
  | ok ds s1 =>
    rw [e] at h
    simp only [bind_ok] at h
    refine fun vs H1 F1 fps1 fp R1 st1 rs fy => ?_
    cases q : rng3L ds with
    | none => rw [q] at h; exact h.elim
    | some xs =>
      rw [q] at h
      simp only [of_some] at h
      unfold rng3L at q
      split at q
      · rename_i i j k
        have ev : vs = [.int i, .int j, .int k] := by
          cases rs with
          | cons h1 h2 _ =>
            cases h2 with
            | cons h3 h4 _ =>
              cases h4 with
              | cons h5 h6 _ =>
                cases h6
                obtain ⟨rfl, _⟩ := rep_int h1
                obtain ⟨rfl, _⟩ := rep_int h3
                obtain ⟨rfl, _⟩ := rep_int h5
                rfl
        subst ev
        unfold rng3 at q
        split at q
        · rename_i hc
          obtain ⟨rfl, c1, c2, c3, c4⟩ := hc
          cases q
          refine ⟨i, j, -1, (i - j).toNat, rfl, RgC.neg (by omega) (by omega) (by omega) (by omega), ?_⟩
          exact h (Itc i (-1) (i - j).toNat) [] H1 F1 fps1 R1 st1 itc_ok fun a ha => nomatch ha
        · cases q
      · cases q
end
end Z

set_option Elab.async false
set_option linter.all false
set_option maxRecDepth 100000
/-! xs[a:b] = ys, the ends beyond the list too. -/
namespace L2
open PySem PySem.Spec PyProof.Rows
section
variable {prog : Program} {w : World} {A : Around} {E : Value → Shared → Prop} {s : Shared}
theorem bounds_run2 {a c n : Nat} (hac : a ≤ c) : sliceBounds (some (a : Int)) (some (c : Int)) none n = (((min a n : Nat) : Int), ((min c n : Nat) : Int), 1) := by
  simp only [sliceBounds, Option.getD_none]
  have h1 : ¬ ((a : Int) < 0) := by omega
  have h2 : ¬ ((c : Int) < 0) := by omega
  simp only [h1, h2, if_false, show (1 : Int) > 0 by decide, if_true]
  congr 1
  · omega
  · congr 1; omega
theorem setItem_slice2 {l b sl : Addr} {items new : Array Value} {n n2 : Nat} {vl vu : Value} {a c : Nat} {Q : Unit → Shared → Prop}
    (e : s.heap.get? l = some { cls := .type "list", data := .seq items n }) (e2 : s.heap.get? b = some { cls := .type "list", data := .seq new n2 }) (hne : l ≠ b)
    (hs : s.heap.IsSliceOf sl vl vu .none) (pl : IsPart vl (some (a : Int))) (pu : IsPart vu (some (c : Int))) (hac : a ≤ c)
    (hsz : items.size + new.size ≤ sizeLine) (h : Q () { s with heap := s.heap.update l (Obj.mapSeq fun xs => xs.extract 0 (min a items.size) ++ new ++ xs.extract (min c items.size) xs.size) }) :
    wpAny (model prog w) A (setItem (.ref l) (.ref sl) (.ref b)) Q E s := by
  have hl : s.heap.IsList l items := PySem.IsL.isList e
  have hb : s.heap.IsList b new := PySem.IsL.isList e2
  obtain ⟨os, hos, hcs, hds⟩ := id hs
  have hTs : s.TypeIs (.ref sl) "slice" := ⟨os, hos, hcs⟩
  have hstep : ¬ ((rawPart none == rawInt 0) = true) := Bool.false_ne_true
  have hsame : Builtin.List.listSameRef (.ref l) (.ref b) = false := by
    unfold Builtin.List.listSameRef
    exact beq_eq_false_iff_ne.mpr hne
  have hmax : (max ((min a items.size : Nat) : Int) ((min c items.size : Nat) : Int)).toNat = min c items.size := by omega
  have hz' : ((fun xs : Array Value => xs.extract 0 (min a items.size) ++ new ++ xs.extract (min c items.size) xs.size) items).size ≤ sizeLine + 1 := by
    simp only [Array.size_append, Array.size_extract]
    omega
  unfold setItem
  try with_reducible refine wpAny_holding ?_
  first | refine wpAny_bind (wpAny_pure ?_) | skip
  refine wpAny_bind (wpAny_sequenceKey hl.typeIs (by decide) ?_)
  refine wpAny_bind (wpAny_callSpecial?_slot (name := Str.ofString "__setitem__") hl.typeIs slot_list_setitem
    (wpAny_call_entry slot_list_setitem hl.typeIs entry_list_setitem ?_ (args_list_setitem _ _ _)))
  show wpAny _ _ (Builtin.List.listSubscript? (.ref sl) >>= _) _ _ s
  refine wpAny_bind ?_
  unfold Builtin.List.listSubscript?
  refine wpAny_bind (wpAny_specialOf hTs slice_no_index ?_)
  simp only [Option.isNone_none, if_true]
  refine wpAny_pure ?_
  show wpAny _ _ (typeOf (.ref sl) >>= _) _ _ s
  refine wpAny_bind (wpAny_typeOf hTs ?_)
  first
    | rw [if_neg (by decide)]
    | refine PySem.W.KFB.if_not (by decide) ?_
  rw [listSliceParts_eq]
  refine wpAny_bind (wpAny_bind (wpAny_field hos hds (x := .none) rfl (wpAny_bind (wpAny_listPart .none ?_))))
  rw [if_neg hstep]
  refine wpAny_bind (wpAny_field hos hds (x := vl) rfl (wpAny_bind (wpAny_listPart pl ?_)))
  refine wpAny_bind (wpAny_field hos hds (x := vu) rfl (wpAny_bind (wpAny_listPart pu (wpAny_pure ?_))))
  first
    | simp only [hsame, Bool.false_eq_true, if_false]
    | refine PySem.W.KFB.if_not hsame ?_
    | (dsimp only
       rw [if_neg (by rw [hsame]; exact Bool.false_ne_true)])
  refine wpAny_bind (m := Builtin.List.listAllItems (.ref b) "must assign iterable to extended slice") ?_
  unfold Builtin.List.listAllItems
  refine wpAny_bind (wpAny_typeOf hb.typeIs ?_)
  first
    | refine PySem.W.KFB.if_so (by decide) ?_
    | rw [if_pos (by decide)]
    | simp only [beq_self_eq_true, Bool.true_or, if_true]
  unfold Builtin.List.listItems
  refine wpAny_bind (wpAny_seqItems e2 rfl (wpAny_pure ?_))
  refine wpAny_bind (wpAny_bind (wpAny_seqItems e rfl (wpAny_pure ?_)))
  refine wpAny_bind (wpAny_of_eq ((sliceIndices_raw (some (a : Int)) (some (c : Int)) none items.size (by simp)).trans (congrArg (pure : Int × Int × Int → Sem (Int × Int × Int)) (bounds_run2 hac))) ?_)
  show wpAny _ _ (if ((1 : Int) == 1) = true then _ else _) _ _ s
  rw [if_pos (by decide)]
  refine wpAny_bind (wpAny_rule ?_)
  first
    | simp only [notLongL hsz, Bool.false_eq_true, if_false]
    | refine PySem.W.KFB.if_not (notLongL hsz) ?_
  first | refine wpAny_bind (wpAny_pure ?_) | skip
  show wpAny _ _ (updateSeq l (fun xs => xs.extract 0 (((min a items.size : Nat) : Int)).toNat ++ new ++ xs.extract (max ((min a items.size : Nat) : Int) ((min c items.size : Nat) : Int)).toNat xs.size) >>= _) _ _ s
  rw [hmax, Int.toNat_natCast]
  refine wpAny_bind (wpAny_updateSeq (hz := Nat.le_trans (Nat.le_add_right _ _) hsz) (_hz' := hz') e rfl ?_)
  refine wpAny_bind (wpAny_letGo ?_)
  first
    | exact wpAny_bind (wpAny_pure (wpAny_pure ⟨.none, rfl, wpAny_pure h⟩))
    | exact wpAny_pure ⟨.none, rfl, wpAny_pure h⟩
end
section
variable {X : Cx}
theorem set_slice2 {pins : List (Addr × Obj)} {s : Shared} {σ : St} {H : Hp} {l b sl : Addr} {xs ys : List V} {a c : Int} {vl vu : Value} {Q : Unit → Shared → Prop} (I : Inv X pins σ H s)
    (hH : H l = some (.lst xs)) (hB : H b = some (.lst ys)) (hne : l ≠ b) (hs : s.heap.IsSliceOf sl vl vu .none) (ra : IsPart vl (some a)) (rc : IsPart vu (some c)) (h0 : 0 ≤ a) (hac : a ≤ c)
    (hz : xs.length + ys.length ≤ sizeLine) (h : ∀ s', Inv X pins σ (upd H l (.lst (xs.take a.toNat ++ ys ++ xs.drop c.toNat))) s' → Q () s') :
    wpAny (model X.prog X.w) X.A (setItem (.ref l) (.ref sl) (.ref b)) Q X.xe s := by
  obtain ⟨z, its, n, r, hl, e⟩ := I.lstM hH
  obtain ⟨z2, its2, n2, r2, hl2, e2⟩ := I.lstM hB
  obtain ⟨a', rfl⟩ := Int.eq_ofNat_of_zero_le h0
  obtain ⟨c', rfl⟩ := Int.eq_ofNat_of_zero_le (Int.le_trans h0 hac)
  simp only [Int.toNat_natCast] at h
  have e3 : xs.take (min a' its.length) = xs.take a' := by rw [← hl, ← List.take_length (l := xs), List.take_take]; simp [Nat.min_comm]
  refine setItem_slice2 (a := a') (c := c') e e2 hne hs ra rc (by omega) (by rw [List.size_toArray, List.size_toArray]; omega) (h _ ?_)
  refine I.lset (its' := its.take a' ++ its2 ++ its.drop c') (t' := s.toks) hH e ?_ (Vals.append (Vals.append (r.take _) r2) (r.drop _)) ?_
  · rw [List.size_toArray]
    refine (splice_eq its its2 (min a' its.length) (min c' its.length)).trans ?_
    congr 2
    · congr 1
      rw [← List.take_eq_take_min]
    · by_cases hc : c' ≤ its.length
      · rw [Nat.min_eq_left hc]
      · rw [Nat.min_eq_right (by omega), List.drop_length, List.drop_eq_nil_of_le (by omega)]
  · rw [List.length_append, List.length_append, List.length_take, List.length_drop]
    omega
end
end L2

set_option Elab.async false
set_option linter.all false
set_option maxRecDepth 100000
/-! xs[a:b] = ys, by values. -/
namespace Z
open PySem PySem.Spec PyProof.Rows L2
section
variable {X : Cx} {pos : Pos}
def gSls (to : TE) (tl th : TO) : TG := fun v σ H Q => to σ H fun x H1 => tl σ H1 fun l H2 => th σ H2 fun r H3 => ∃ a xs b ys, ∃ i j : Int, x = .ref a ∧ v = .ref b ∧ a ≠ b ∧ H3 a = some (.lst xs) ∧ H3 b = some (.lst ys) ∧ l = some i ∧ r = some j ∧ 0 ≤ i ∧ i ≤ j ∧
  xs.length + ys.length ≤ sizeLine ∧ Q σ (upd H3 a (.lst (xs.take i.toNat ++ ys ++ xs.drop j.toNat)))
theorem pg_sls {ox : Str} {op : Pos} {lo hi : Option Expr} {p2 : Pos} {to : TE} {tl th : TO} (ho : PE X (.Name ox op) to) (hl : PO X lo tl) (hu : PO X hi th) : PG X (.Subscript (.Name ox op) (.Slice lo hi none p2) pos) (gSls to tl th) := by
  refine ⟨fun pins s σ H v u Q I r h => ?_⟩
  have ha : assign (.Subscript (.Name ox op) (.Slice lo hi none p2) pos) X.env u = (do
      let ov ← holding [u] (eval (.Name ox op) X.env)
      let iv ← holding [u, ov] (eval (.Slice lo hi none p2) X.env)
      standAt pos
      holding [u, ov, iv] (setItem ov iv u)
      release [iv, u, ov] []) := rfl
  rw [ha]
  refine wpAny_bind (wpAny_holding (thn (ho.run pins s σ H _ I h) fun ov s1 ⟨x, H1, I1, r1, q1⟩ => ?_))
  refine wpAny_bind (wpAny_holding (wpAny_Slice (thn (hl.run pins s1 σ H1 _ I1 q1) fun vl s2 ⟨l, H2, I2, pl, q2⟩ => thn (hu.run pins s2 σ H2 _ I2 q2) fun vu s3 ⟨u', H3, I3, pu, q3⟩ => ?_)))
  rw [evalPart_none]
  refine wpAny_pure ?_
  have I4 : Inv X pins σ H3 { s3 with heap := s3.heap.push { cls := .type "slice", data := .fields #[vl, vu, .none] } } := I3.kept (t' := s3.toks) fun b ob q => Heap.get?_push_of_some _ q
  obtain ⟨a, xs, b, ys, i, j, rfl, rfl, hne, hA, hB, rfl, rfl, h0, hij, hz, q⟩ := q3
  cases r1
  cases r
  refine wpAny_bind (wpAny_standAt (wpAny_bind (wpAny_holding (set_slice2 I4 hA hB hne (Heap.IsSliceOf.new ..) pl pu h0 hij hz fun s5 I5 => ?_))))
  exact wpAny_release ⟨σ, _, I5, q⟩
theorem storeSl_some {p q : Bool} {d l h y d' : D} (e : storeSl p q d l h y = some d') : ∃ i j xs ys, endOf p l = some (some i) ∧ endOf q h = some (some j) ∧ d = .lst true xs ∧ y = .lst true ys ∧ 0 ≤ i ∧ i ≤ j ∧ ownL xs = false ∧ ownL ys = false ∧ xs.length + ys.length ≤ SL ∧
    d' = .lst true (xs.take i.toNat ++ (ys ++ xs.drop j.toNat)) := by
  unfold storeSl at e
  simp only [Option.bind_eq_some_iff] at e
  obtain ⟨l', e1, h', e2, e3⟩ := e
  split at e3
  · rename_i i j xs ys
    split at e3
    · rename_i hc
      cases e3
      obtain ⟨c1, c2, c3, c4, c5, c6⟩ := hc
      exact ⟨i, j, xs, ys, e1, e2, rfl, rfl, c1, c2, c4, c5, c6, rfl⟩
    · cases e3
  · cases e3
/-- of a list that owns nothing, front and end -/
theorem reps_take0 {K : Kw} {F H : Hp} : ∀ {vs : List V} {ds : List D} (n : Nat), Reps K F H vs ds [] → Reps K F H (vs.take n) (ds.take n) [] := fun {vs ds} n h => by
  induction n generalizing vs ds with
  | zero => simpa using Reps.nil
  | succ n ih =>
    cases vs with
    | nil =>
      cases ds with
      | nil => simpa using Reps.nil
      | cons _ _ => have := h.len; simp at this
    | cons v vs =>
      cases ds with
      | nil => have := h.len; simp at this
      | cons d ds =>
        obtain ⟨h1, h2⟩ := h.inv0
        rw [List.take_succ_cons, List.take_succ_cons]
        exact Reps.cons0 h1 (ih h2)
theorem reps_drop0 {K : Kw} {F H : Hp} : ∀ {vs : List V} {ds : List D} (n : Nat), Reps K F H vs ds [] → Reps K F H (vs.drop n) (ds.drop n) [] := fun {vs ds} n h => by
  induction n generalizing vs ds with
  | zero => simpa using h
  | succ n ih =>
    cases vs with
    | nil =>
      cases ds with
      | nil => simpa using Reps.nil
      | cons _ _ => have := h.len; simp at this
    | cons v vs =>
      cases ds with
      | nil => have := h.len; simp at this
      | cons d ds =>
        obtain ⟨h1, h2⟩ := h.inv0
        rw [List.drop_succ_cons, List.drop_succ_cons]
        exact ih h2
def oSls (i : Nat) (p q : Bool) (fl fh fe : Env → R D) : Env → O := fun s => (fe s).O fun y s => match get s i with
    | some _ => (fl s).O fun l s => (fh s).O fun h s => match get s i with
      | some d => match storeSl p q d l h y with
        | some d' => .nxt (s.set i (some d'))
        | none => .bad
      | none => .bad
    | none => .bad
theorem ss_sls {x : Str} {xp sp p2 : Pos} {lo hi : Option Expr} {e : Expr} {i : Nat} {p q : Bool} {mvl mvh mve : List Nat} {fl fh fe : Env → R D} (he : PE X e (tE X.kw mve [] fe)) (hx : PE X (.Name x xp) (tVar i)) (hl : PO X lo (tP X.kw mvl p fl)) (hh : PO X hi (tP X.kw mvh q fh))
    (h1 : swapsWithSole [.Subscript (.Name x xp) (.Slice lo hi none p2) sp] e pos.line X.env = pure false) (h2 : swappedStores [.Subscript (.Name x xp) (.Slice lo hi none p2) sp] e X.env = pure none) :
    PS X (.Assign [.Subscript (.Name x xp) (.Slice lo hi none p2) sp] e pos) (tS X.kw (mve ++ mvl ++ mvh ++ [i]) [] (oSls i p q fl fh fe)) := ps_imp (ps_asg he (pg_sls hx hl hh) h1 h2) fun D σ H h => by
  obtain ⟨F, s, fps, R, h⟩ := h
  refine ⟨F, s, fps, R, ?_⟩
  try dsimp only [Z.R.O, oSls] at h
  cases ee : fe s with
  | exc x s' => rw [ee] at h; exact h
  | bad => rw [ee] at h; exact h
  | ok dy s1 =>
    rw [ee] at h
    try dsimp only at h
    refine fun y H1 F1 fps1 fpy R1 st1 rs1 => ?_
    cases eg0 : get s1 i with
    | none => rw [eg0] at h; exact h.elim
    | some d0 =>
      rw [eg0] at h
      try dsimp only at h
      obtain ⟨v0, hv0, _⟩ := R1.rep i d0 eg0
      refine ⟨v0, hv0, F1, s1, fps1, R1, ?_⟩
      cases el : fl s1 with
      | exc x s' => rw [el] at h; exact h.elim
      | bad => rw [el] at h; exact h.elim
      | ok dl s2 =>
        rw [el] at h
        try dsimp only at h ⊢
        cases ep : endOf p dl with
        | none =>
          exfalso
          cases eh : fh s2 with
          | exc x s' => rw [eh] at h; exact h
          | bad => rw [eh] at h; exact h
          | ok dh s3 =>
            rw [eh] at h
            try dsimp only at h
            cases eg : get s3 i with
            | none => rw [eg] at h; exact h
            | some d =>
              rw [eg] at h
              have : storeSl p q d dl dh dy = none := by unfold storeSl; rw [ep]; rfl
              try dsimp only at h
              rw [this] at h
              exact h
        | some l =>
          try dsimp only
          refine fun H2 F2 fps2 R2 st2 => ⟨F2, s2, fps2, R2, ?_⟩
          cases eh : fh s2 with
          | exc x s' => rw [eh] at h; exact h.elim
          | bad => rw [eh] at h; exact h.elim
          | ok dh s3 =>
            rw [eh] at h
            try dsimp only at h ⊢
            cases eg : get s3 i with
            | none => rw [eg] at h; exact h.elim
            | some d =>
              rw [eg] at h
              try dsimp only at h
              cases es : storeSl p q d dl dh dy with
              | none => rw [es] at h; exact h.elim
              | some d' =>
                rw [es] at h
                obtain ⟨a, b, xs, ys, e1, e2, rfl, rfl, c0, c1, o1, o2, c2, rfl⟩ := storeSl_some es
                rw [e2]
                try dsimp only
                refine fun H3 F3 fps3 R3 st3 => ?_
                obtain ⟨v, hv, r⟩ := R3.rep i _ eg
                rw [hv0] at hv
                cases hv
                have ry := (rs1.on R1 st2 (.inl disj_nil)).on R2 st3 (.inl disj_nil)
                rw [ep] at e1
                cases e1
                generalize hfi : fps3 i = fpx at r
                have ryr := ry.rep
                have fy : ∀ c ∈ fpy, (∀ j, c ∉ fps3 j) := fun c hc => by
                  rcases ry.fr c hc with ⟨j, hj, _⟩ | q
                  · cases hj
                  · exact q.1
                cases r with
                | @lstO ax ws _ fp0 hA hf hs hax =>
                  cases ryr with
                  | @lstO by_ zs _ fp1 hB hfb hs2 hby =>
                    have hs := fps_nil hs o1
                    have hs2 := fps_nil hs2 o2
                    have hne : ax ≠ by_ := fun z => fy by_ List.mem_cons_self i (by rw [hfi, ← z]; exact List.mem_cons_self)
                    refine ⟨ax, ws, by_, zs, a, b, rfl, rfl, hne, hA, hB, rfl, rfl, c0, c1, by rw [hs.len, hs2.len, sl_eq]; exact c2, ?_⟩
                    have hn : Reps X.kw F3 H3 (ws.take a.toNat ++ zs ++ ws.drop b.toNat) (xs.take a.toNat ++ (ys ++ xs.drop b.toNat)) [] := by
                      rw [List.append_assoc]
                      exact (reps_take0 _ hs).app0 (hs2.app0 (reps_drop0 _ hs))
                    obtain ⟨u1, u2, u3⟩ := lst_up (ws := ws) (xs := xs) (fp := fp0) hf hax hn fun c hc => nomatch hc
                    have st := (st1.trans st2).trans st3
                    refine h σ _ F3 (fun j => if j = i then [ax] else fps3 j) (R3.change (get_lt eg) hv0 (fun c o e hc => u1 c o e (by rw [hfi] at hc; exact hc)) (fun c hc => (R3.there hc).1) u3 fun c hc => ?_) (st.change (fun c o e hc => u1 c o e (by rw [hfi] at hc; exact hc)) u2 (fun j hj => get_set_ne hj) fun c hc => ?_) Kp.refl
                    · rw [List.mem_singleton.mp hc]; exact .inl (by rw [hfi]; exact List.mem_cons_self)
                    · rw [List.mem_singleton.mp hc]; exact .inl (by rw [hfi]; exact List.mem_cons_self)
end
end Z

set_option Elab.async false
set_option linter.all false
set_option maxRecDepth 100000
/-! [::-1] of a tuple. -/
namespace Z
open PySem PySem.Spec PyProof.Rows L2 HT
section
variable {prog : Program} {w : World} {A : Around} {E : Value → Shared → Prop} {s : Shared}
theorem rev_adjust (n : Nat) : Builtin.Slice.sliceAdjust none none (-1) (n : Int) = ((n : Int) - 1, -1) := rfl
theorem rev_places (n : Nat) : Builtin.Slice.slicePlaces ((n : Int) - 1) (-1) (-1) = n := by
  unfold Builtin.Slice.slicePlaces
  rw [if_neg (by decide)]
  by_cases h : ((n : Int) - 1) > -1
  · rw [if_pos h]
    have e : -(-1 : Int) = 1 := rfl
    rw [e, Int.ediv_one]
    omega
  · rw [if_neg h]; omega
theorem rev_pick (xs : Array Value) : ((List.range xs.size).filterMap fun (m : Nat) => xs[(((xs.size : Nat) : Int) - 1 + (m : Int) * (-1)).toNat]?).toArray = xs.toList.reverse.toArray := by
  congr 1
  have e : (fun (m : Nat) => xs[(((xs.size : Nat) : Int) - 1 + (m : Int) * (-1)).toNat]?) = fun m => if m < xs.size then xs.toList.reverse[m]? else xs[(((xs.size : Nat) : Int) - 1 + (m : Int) * (-1)).toNat]? := by
    funext m
    by_cases hm : m < xs.size
    · rw [if_pos hm, List.getElem?_reverse (by simpa using hm)]
      have e : (((xs.size : Nat) : Int) - 1 + (m : Int) * (-1)).toNat = xs.size - 1 - m := by omega
      rw [e]
      simp
    · rw [if_neg hm]
  rw [e]
  have key : ∀ (ys : List Value) (g : Nat → Option Value) (n : Nat), ys.length = n → (List.range n).filterMap (fun m => if m < n then ys[m]? else g m) = ys := by
    intro ys g n hn
    have d2 : ∀ k, k ≤ n → (List.range k).filterMap (fun m => if m < n then ys[m]? else g m) = ys.take k := by
      intro k
      induction k with
      | zero => intro _; simp
      | succ k ih =>
        intro hk
        rw [List.range_succ, List.filterMap_append, ih (by omega)]
        have hl : k < ys.length := by omega
        simp only [List.filterMap_cons, List.filterMap_nil]
        rw [if_pos (by omega), List.getElem?_eq_getElem hl]
        simp only
        rw [List.take_succ_eq_append_getElem hl]
    rw [d2 n (Nat.le_refl _), List.take_of_length_le (by omega)]
  exact key _ _ _ (by simp)
theorem sliceApplied_rev {sl : Addr} {vs : Value} {n : Nat} {Q : Int × Int × Nat → Shared → Prop} (hs : s.heap.IsSliceOf sl .none .none vs) (ks1 : IsPart vs (some (-1)))
    (h : Q ((n : Int) - 1, -1, n) s) : wpAny (model prog w) A (Builtin.Slice.sliceApplied (.ref sl) (pure (n : Int))) Q E s := by
  obtain ⟨ob, kb, kc, kd⟩ := id hs
  unfold Builtin.Slice.sliceApplied Builtin.Slice.sliceFields
  refine wpAny_bind (wpAny_bind (wpAny_field kb kd (x := .none) rfl (wpAny_bind (wpAny_field kb kd (x := .none) rfl (wpAny_bind (wpAny_field kb kd (x := vs) rfl (wpAny_pure ?_)))))))
  refine wpAny_bind (slicePart_ ks1 ?_)
  show wpAny _ _ (if ((-1 : Int) == 0) = true then _ else _) _ _ s
  rw [if_neg (by decide)]
  refine wpAny_bind (slicePart_ .none (wpAny_bind (slicePart_ .none (wpAny_bind (wpAny_pure ?_)))))
  show wpAny _ _ (match Builtin.Slice.sliceAdjust none none (-1) (n : Int) with | (lo, hi) => pure (lo, (-1 : Int), Builtin.Slice.slicePlaces lo hi (-1))) _ _ s
  rw [rev_adjust]
  show wpAny _ _ (pure ((n : Int) - 1, (-1 : Int), Builtin.Slice.slicePlaces ((n : Int) - 1) (-1) (-1))) _ _ s
  rw [rev_places]
  exact wpAny_pure h
theorem getItem_tuple_rev {t sl : Addr} {xs0 : Array Value} {vs : Value} {Q : Value → Shared → Prop} (kt : IsTup s.heap t xs0) (hs : s.heap.IsSliceOf sl .none .none vs) (ks1 : IsPart vs (some (-1)))
    (h : Q (.ref s.heap.objs.size) { s with heap := s.heap.push { cls := .type "tuple", data := .seq xs0.toList.reverse.toArray } })
    (hsm : xs0.size ≤ sizeLine) : wpAny (model prog w) A (getItem (.ref t) (.ref sl)) Q E s := by
  have ksz : sizeOk (.seq xs0.toList.reverse.toArray) := by
    show xs0.toList.reverse.toArray.size ≤ sizeLine
    simpa using hsm
  obtain ⟨ob, kb, kc, kd⟩ := id hs
  have kT : s.TypeIs (.ref sl) "slice" := ⟨ob, kb, kc⟩
  unfold getItem
  try with_reducible refine wpAny_holding ?_
  first | refine wpAny_bind (wpAny_pure ?_) | skip
  refine wpAny_bind (wpAny_sequenceKey kt.typeIs (by decide) ?_)
  refine wpAny_bind (wpAny_callSpecial?_slot (name := Str.ofString "__getitem__") kt.typeIs PyProof.Rows.slot_tuple_getitem
    (wpAny_call_entry PyProof.Rows.slot_tuple_getitem kt.typeIs entry_tuple_getitem ?_ (args_tuple_getitem _ _)))
  show wpAny _ _ (Builtin.Tuple.tupleItemsOf (.ref t) >>= _) _ _ s
  refine wpAny_bind (tupleItemsOf_ kt ?_)
  refine wpAny_bind (wpAny_typeOf kT ?_)
  rw [if_pos (by decide)]
  refine wpAny_bind (sliceApplied_rev hs ks1 ?_)
  have kno : ¬ ((((xs0.size : Nat) : Int) - 1 == 0 && (-1 : Int) == 1 && xs0.size == xs0.size) = true) := by
    intro q
    rw [Bool.and_eq_true, Bool.and_eq_true] at q
    exact absurd q.1.2 (by decide)
  show wpAny _ _ (if (((xs0.size : Nat) : Int) - 1 == 0 && (-1 : Int) == 1 && xs0.size == xs0.size) = true then _ else _) _ _ s
  rw [if_neg kno, rev_pick]
  first
    | exact wpAny_bind (m := Builtin.Tuple.tupleExact _) (wpAny_newObj_type (wpAny_pure ⟨_, rfl, wpAny_pure h⟩) ksz)
    | exact wpAny_bind (m := Builtin.Tuple.tupleExact _) (wpAny_newObj_type (wpAny_bind (wpAny_pure (wpAny_pure ⟨_, rfl, wpAny_pure h⟩))) ksz)
    | exact wpAny_bind (wpAny_bind (m := Builtin.Tuple.tupleExact _) (wpAny_newObj_type (wpAny_pure (wpAny_pure ⟨_, rfl, wpAny_pure h⟩)) ksz))
    | exact wpAny_bind (wpAny_bind (m := Builtin.Tuple.tupleExact _) (wpAny_newObj_type (wpAny_pure ⟨_, rfl, wpAny_pure h⟩) ksz))
end
section
variable {X : Cx}
def tRev2 (K : PySem.W.Frag) (te : TE) : TE := fun σ H Q => te σ H fun x G1 => (∃ a xs, x = .ref a ∧ SqL K G1 a xs ∧ ∀ p, G1 p = none → Q (.ref p) (upd G1 p (.lst xs.reverse))) ∨ (∃ a xs, x = .ref a ∧ SqT K G1 a xs ∧ ∀ p ws, G1 p = none → Q (.ref p) (upd G1 p (.frz (tupO ws) (.tup xs.reverse))))
theorem pe_or2 {e : Expr} {te : TE} {k : Nat} {p1 p2 p3 pos : Pos} (he : PE X e te) : PE X (.Subscript e (.Slice none none (some (.UnaryOp .USub (.Constant (.int 1) k p1) p2)) p3) pos) (tRev2 X.K te) := by
  refine ⟨fun pp s σ H Q I h => ?_⟩
  refine Subscript_ (thn (he.run pp s σ H _ I h) fun v t1 ⟨x, G1, J1, w1, z1⟩ => ?_)
  have kst : PO X (some (.UnaryOp .USub (.Constant (.int 1) k p1) p2)) (tPart (tUn (L2.rU fun i => .int (-i)) (tC (.int 1)))) := po_some (pe_un un_neg pe_int)
  refine wpAny_Slice (thn (po_none.run pp t1 σ G1 (fun o G2 => o = none ∧ G2 = G1) J1 ⟨rfl, rfl⟩) fun ul t2 ⟨l, G2, J2, kl1, del, d2⟩ => ?_)
  subst del d2
  refine thn (po_none.run pp t2 σ G2 (fun o G3 => o = none ∧ G3 = G2) J2 ⟨rfl, rfl⟩) fun uu t3 ⟨u, G3, J3, ku1, deu, d3⟩ => ?_
  subst deu d3
  refine thn (kst.run pp t3 σ G3 (fun o G4 => o = some (-1) ∧ G4 = G3) J3 ⟨1, rfl, -1, rfl, rfl, rfl⟩) fun vs t4 ⟨o, G4, J4, ks1, deo, d4⟩ => ?_
  subst deo d4
  cases kl1
  cases ku1
  have J5 : Inv X pp σ G4 { t4 with heap := t4.heap.push { cls := .type "slice", data := .fields #[.none, .none, vs] } } := J4.kept (t' := t4.toks) fun b ob q => Heap.get?_push_of_some _ q
  rcases z1 with ⟨a, xs, ex, kx, q⟩ | ⟨a, xs, ex, kx, q⟩
  · subst ex
    cases w1
    obtain ⟨us, r, kt, kz⟩ := J5.list kx
    have kl := r.length
    show wpAny (model X.prog X.w) X.A (subscriptTail e (.Slice none none (some (.UnaryOp .USub (.Constant (.int 1) k p1) p2)) p3) (.ref a) (.ref t4.heap.objs.size)) (EP X pp σ Q) X.xe { t4 with heap := t4.heap.push { cls := .type "slice", data := .fields #[.none, .none, vs] } }
    refine tail_any (ops := [.ref a, .ref t4.heap.objs.size]) kt.isList.typeIs (PySem.slot_list_getitem.lookup) ?_ (by with_unfolding_all rfl)
    refine wpAny_getItem_list_slice kt.isList (Heap.IsSliceOf.new _ .none .none vs) .none .none ks1 (by decide) ?_ (by rw [List.size_toArray]; omega)
    rw [PySem.W.krv_pick]
    refine ⟨.ref _, _, J5.laid (t' := t4.toks) (o := .lst xs.reverse) (fun b ob q => Heap.get?_push_of_some _ q) (Nat.le_refl _) ?_, rfl, q _ (J5.hok.fresh (Nat.le_refl _))⟩
    exact ⟨by rw [List.length_reverse]; exact kz, _, 0, r.reverse, Heap.get?_push_size _ rfl⟩
  · subst ex
    cases w1
    obtain ⟨us, r, kt, kz⟩ := J5.tuple kx
    have kl := r.length
    show wpAny (model X.prog X.w) X.A (subscriptTail e (.Slice none none (some (.UnaryOp .USub (.Constant (.int 1) k p1) p2)) p3) (.ref a) (.ref t4.heap.objs.size)) (EP X pp σ Q) X.xe { t4 with heap := t4.heap.push { cls := .type "slice", data := .fields #[.none, .none, vs] } }
    refine tail_any (ops := [.ref a, .ref t4.heap.objs.size]) kt.typeIs PyProof.Rows.slot_tuple_getitem.lookup ?_ (by with_unfolding_all rfl)
    refine getItem_tuple_rev kt (Heap.IsSliceOf.new _ .none .none vs) ks1 ?_ (by rw [List.size_toArray]; omega)
    refine ⟨.ref _, _, J5.laid (t' := t4.toks) (o := .frz (tupO us.reverse) (.tup xs.reverse)) (fun b ob q => Heap.get?_push_of_some _ q) (Nat.le_refl _) ?_, rfl, q _ _ (J5.hok.fresh (Nat.le_refl _))⟩
    exact ⟨Heap.get?_push_size _ rfl, by rw [List.length_reverse]; exact kz, _, r.reverse, IsTup.new _ _⟩
theorem se_rev {pos : Pos} {e : Expr} {k : Nat} {p1 p2 p3 : Pos} {mv vw : List Nat} {f : Env → R D} (he : PE X e (tE X.kw mv vw f)) :
    PE X (.Subscript e (.Slice none none (some (.UnaryOp .USub (.Constant (.int 1) k p1) p2)) p3) pos) (tE X.kw mv [] fun s => (f s).bind fun x s => R.of (un1 .rev x) s) := by
  refine pe_imp (pe_or2 he) fun σ H Q h => ?_
  obtain ⟨F, s, fps, R, h⟩ := h
  refine ⟨F, s, fps, R, ?_⟩
  try dsimp only at h
  cases ef : f s with
  | exc x s' => rw [ef] at h; exact h
  | bad => rw [ef] at h; exact h
  | ok d s' =>
    rw [ef] at h
    simp only [bind_ok] at h
    refine fun v H' F' fps' fp R' st rs => ?_
    cases d <;> (try (simp only [un1, of_none] at h; done))
    · rename_i xs
      simp only [un1] at h
      by_cases ho : ownL xs = true
      · rw [if_pos ho] at h; exact h.elim
      · rw [if_neg ho] at h
        obtain ⟨a, vs, rfl, t0, t1, p1⟩ := rep_tup R'.sub rs.rep
        have p1 := fps_nil p1 (own_false ho)
        refine .inr ⟨a, vs, rfl, t1, fun p ws hp => ?_⟩
        exact give_tup R'.sub hp (reps_rev0 p1) (give_res (vf := false) (vwa := vw) R' st rs h)
    · rename_i o xs
      simp only [un1] at h
      by_cases ho : ownL xs = true
      · rw [if_pos ho] at h; exact h.elim
      · rw [if_neg ho] at h
        obtain ⟨a, vs, f0, rfl, t1, p1, hf⟩ := rep_lst R'.sub rs.rep
        have p1 := fps_nil p1 (own_false ho)
        refine .inl ⟨a, vs, rfl, t1, fun p hp => ?_⟩
        exact give_lst R'.sub hp (reps_rev0 p1) (give_res (vf := false) (vwa := vw) R' st rs h)
end
end Z

set_option Elab.async false
set_option linter.all false
set_option maxRecDepth 100000
set_option maxHeartbeats 2000000
/-! Sets of texts in the heap. -/
namespace Z
open PySem PySem.Spec PyProof.Rows L2
/-- the text of an entry -/
def txK (e : Int × Value) : Str := match e.2 with
  | .str k _ => k
  | _ => Str.empty
def TxE (w : World) (e : Int × Value) : Prop := ∃ k tk, e.2 = .str k tk ∧ e.1 = hashStr w k
/-- a set at a that has just the texts ks -/
def TxSet (w : World) (h : Heap) (a : Addr) (ks : List Str) : Prop :=
  ∃ ob en ep tb, h.get? a = some ob ∧ ob.ExactSet ∧ ob.data = .set en ep tb ∧ (∀ e ∈ en.toList, TxE w e) ∧ (en.toList.map txK).Perm ks ∧ ks.Nodup ∧
    ks.length < scanBound ∧ tb.fits en.size = true ∧ Ris tb.place.toList ∧ (w.params.followText "set-order" = true ∨ tb.led = true)
section
variable {P : Program} {w : World} {h h' : Heap} {a : Addr} {ks : List Str}
theorem TxSet.stay (R : TxSet w h a ks) (k : ∀ o, h.get? a = some o → h'.get? a = some o) : TxSet w h' a ks := by
  obtain ⟨ob, en, ep, tb, g, r⟩ := R
  exact ⟨ob, en, ep, tb, k ob g, r⟩
theorem tx_is {e : Int × Value} (g : TxE w e) (k : Str) : (strKind P w).is k e.2 = true ↔ txK e = k := by
  obtain ⟨x, tk, e1, _⟩ := g
  unfold txK
  rw [e1]
  show (Value.isStrOf k (.str x tk) = true) ↔ x = k
  constructor
  · intro q
    obtain ⟨u, hu⟩ := Value.isStrOf_shape q
    injection hu
  · rintro rfl
    exact beq_self_eq_true x
theorem tx_elems {l : List (Int × Value)} (g : ∀ e ∈ l, TxE w e) : ElemsOf (strKind P w) l := fun e he => by
  obtain ⟨k, tk, e1, e2⟩ := g e he
  refine ⟨⟨k, ?_, e2⟩, by rw [e1]; rfl⟩
  exact (tx_is (P := P) (g e he) k).mpr (by unfold txK; rw [e1])
theorem tx_size {en : Array (Int × Value)} (p : (en.toList.map txK).Perm ks) : en.size = ks.length := by
  rw [← p.length_eq, List.length_map, Array.length_toList]
theorem tx_mem {l : List (Int × Value)} (g : ∀ e ∈ l, TxE w e) (p : (l.map txK).Perm ks) (k : Str) : k ∈ ks ↔ ∃ e ∈ l, (strKind P w).is k e.2 = true := by
  rw [← p.mem_iff, List.mem_map]
  exact ⟨fun ⟨e, m, q⟩ => ⟨e, m, (tx_is (g e m) k).mpr q⟩, fun ⟨e, m, q⟩ => ⟨e, m, (tx_is (g e m) k).mp q⟩⟩
theorem TxSet.of (R : TxSet w h a ks) : h.SetOf (strKind P w) a (fun k => decide (k ∈ ks)) ks.length := by
  obtain ⟨ob, en, ep, tb, g1, g2, g3, g4, g5, g6, g7, g8, _⟩ := R
  have z := tx_size g5
  exact ⟨ob, en, ep, tb, g1, g2, g3, tx_elems g4, fun k => by rw [decide_eq_true_eq]; exact tx_mem g4 g5 k, by rw [z]; exact g7, g8, z⟩
end
/-- one text more -/
def insS (ks : List Str) (k : Str) : List Str := if k ∈ ks then ks else ks ++ [k]
section
variable {P : Program} {w : World} {A : Around} {E : Value → Shared → Prop} {s : Shared} {a : Addr} {ks : List Str}
/-- the table, stored, grown where it is too full -/
theorem tx_store {note : Bool → Sem Unit} (hnote : ∀ (b : Bool) (s₁ : Shared) (R : Unit → Shared → Prop), R () s₁ → wpAny (model P w) A (note b) R E s₁)
    {ob : Obj} {en : Array (Int × Value)} {ep : Nat} {tb : SetTable} (g1 : s.heap.get? a = some ob) (g2 : ob.ExactSet) (g3 : ob.data = .set en ep tb)
    {en' : Array (Int × Value)} {tb' : SetTable} {ls : List Str} (c1 : ∀ e ∈ en'.toList, TxE w e) (c2 : (en'.toList.map txK).Perm ls) (c3 : ls.Nodup) (c4 : ls.length < scanBound)
    (c5 : tb'.fits en'.size = true) (c6 : Ris tb'.place.toList) (c7 : w.params.followText "set-order" = true ∨ tb'.led = true) {dum : Bool} {R : Option Bool → Shared → Prop}
    (hR : ∀ h', Heap.SameBut a s.heap h' → TxSet w h' a ls → R (some true) { s with heap := h' }) :
    wpAny (model P w) A (storeSet a en' tb' >>= fun _ => if (!dum && tb'.tooFull) = true then (note (relayAll tb' en' (SetTable.grown en'.size)).2.2 >>= fun _ =>
      storeSet a (relayAll tb' en' (SetTable.grown en'.size)).1 (relayAll tb' en' (SetTable.grown en'.size)).2.1 >>= fun _ => pure (some true)) else pure (some true)) R E s := by
  have z : en'.size = ls.length := tx_size c2
  have zb : en'.size < scanBound := by rw [z]; exact c4
  refine wpAny_bind (wpAny_storeSet_of g1 g3 ?_ (fits_of_scanBound zb))
  have n1 := store_at (es' := en') (t' := tb') g1 g3
  have m1 := Heap.SameBut.update s.heap a (Obj.putSet en' tb')
  split
  · have w1 := relayAll_perm tb' en' (SetTable.grown en'.size)
    have w2 := relayAll_fits tb' en' (SetTable.grown en'.size)
    have w3 := relayAll_ris tb' en' (SetTable.grown en'.size)
    have w4 := relayAll_led tb' en' (SetTable.grown en'.size)
    generalize relayAll tb' en' (SetTable.grown en'.size) = Y at w1 w2 w3 w4 ⊢
    obtain ⟨en2, tb2, gave⟩ := Y
    dsimp only at w1 w2 w3 w4 ⊢
    have z2 : en2.size = en'.size := by rw [← Array.length_toList, w1.length_eq, Array.length_toList]
    have zb2 : en2.size < scanBound := by rw [z2]; exact zb
    refine wpAny_bind (hnote _ _ _ (wpAny_bind (wpAny_storeSet_of n1 rfl ?_ (fits_of_scanBound zb2))))
    have n2 := store_at (es' := en2) (t' := tb2) n1 rfl
    refine wpAny_pure (hR _ (m1.trans (Heap.SameBut.update _ a _)) ⟨_, en2, _, tb2, n2, g2, rfl, fun e he => c1 e (w1.mem_iff.mp he), (w1.map txK).trans c2, c3, c4, w2, w3, ?_⟩)
    exact c7.imp id fun y => by rw [w4]; exact y
  · exact wpAny_pure (hR _ m1 ⟨_, en', _, tb', n1, g2, rfl, c1, c2, c3, c4, c5, c6, c7⟩)
theorem tx_add {k : Str} {tk : Tok} {Q : Bool → Shared → Prop} (R : TxSet w s.heap a ks) (room : ks.length + 1 < scanBound)
    (q : ∀ h' b, Heap.SameBut a s.heap h' → TxSet w h' a (insS ks k) → Q b { s with heap := h' }) :
    wpAny (model P w) A (setAddHashed a (.str k tk) ((strKind P w).hash k)) Q E s := by
  obtain ⟨ob, en, ep, tb, g1, g2, g3, g4, g5, g6, g7, g8, g9, g10⟩ := R
  have z := tx_size g5
  have zb : en.size < scanBound := by rw [z]; exact g7
  have ik : (strKind P w).is k (.str k tk) = true := beq_self_eq_true k
  have sc : (Value.str k tk).scannable = true := rfl
  have el : ElemsOf (strKind P w) en.toList := tx_elems g4
  unfold setAddHashed setAddHashedIn
  refine wpAny_holding (wpAny_bind (wpAny_setState_of g1 g3 g8 ?_))
  dsimp only
  rw [byScan_of sc zb el]
  simp only [↓reduceIte]
  unfold setAddByScan
  refine wpAny_bind (wpAny_bind (wpAny_rule (wpAny_bind (wpAny_setScan_of ik g1 g3 g8 el ?_))))
  cases fi : List.findIdx? (fun e => (strKind P w).is k e.2) en.toList with
  | some j =>
    dsimp only
    obtain ⟨j1, j2, _⟩ := List.findIdx?_eq_some_iff_getElem.mp fi
    have km : k ∈ ks := (tx_mem (P := P) g4 g5 k).mpr ⟨_, List.getElem_mem j1, j2⟩
    refine wpAny_pure (wpAny_pure (q s.heap _ (Heap.SameBut.refl a s.heap) ?_))
    unfold insS
    rw [if_pos km]
    exact ⟨ob, en, ep, tb, g1, g2, g3, g4, g5, g6, g7, g8, g9, g10⟩
  | none =>
    dsimp only
    have kn : k ∉ ks := fun y => by
      obtain ⟨e, m, e2⟩ := (tx_mem (P := P) g4 g5 k).mp y
      have c := List.findIdx?_eq_none_iff.mp fi e m
      rw [e2] at c
      cases c
    have gave : ∀ (b : Bool) {s₁ : Shared} {Y : Unit → Shared → Prop}, Y () s₁ → wpAny (model P w) A (match b with | true => rule "set.scan.the-table-gave-way" | false => pure ()) Y E s₁ :=
      fun b s₁ Y y => by cases b <;> first | exact wpAny_pure y | exact wpAny_rule y
    have w1 := layNew_perm tb en ((strKind P w).hash k) (.str k tk)
    have w2 := layNew_fits tb en ((strKind P w).hash k) (.str k tk)
    have w3 := layNew_ris tb en ((strKind P w).hash k) (.str k tk) g9
    have w4 := layNew_led tb en ((strKind P w).hash k) (.str k tk)
    generalize layNew tb en ((strKind P w).hash k) (.str k tk) = Y at w1 w2 w3 w4 ⊢
    obtain ⟨en1, tb1, dum, gv⟩ := Y
    dsimp only at w1 w2 w3 w4 ⊢
    rw [Array.toList_push] at w1
    have c1 : ∀ e ∈ en1.toList, TxE w e := fun e he => by
      rcases List.mem_append.mp (w1.mem_iff.mp he) with y | y
      · exact g4 e y
      · rw [List.mem_singleton.mp y]; exact ⟨k, tk, rfl, rfl⟩
    have c2 : (en1.toList.map txK).Perm (insS ks k) := by
      unfold insS
      rw [if_neg kn]
      refine (w1.map txK).trans ?_
      rw [List.map_append]
      exact g5.append_right _
    have c3 : (insS ks k).Nodup := by
      unfold insS
      rw [if_neg kn]
      exact List.nodup_append.mpr ⟨g6, by simp, fun x hx y hy => by rw [List.mem_singleton.mp hy]; exact fun e => kn (e ▸ hx)⟩
    have c4 : (insS ks k).length < scanBound := by
      unfold insS
      rw [if_neg kn]
      simpa using room
    have c7 : w.params.followText "set-order" = true ∨ tb1.led = true := g10.imp id fun y => by rw [w4]; exact y
    refine wpAny_bind (gave _ ?_)
    split
    · refine wpAny_bind ?_
      rw [hashByValue_scannable 8 sc]
      refine wpAny_pure ?_
      refine tx_store ?_ g1 g2 g3 c1 c2 c3 c4 ?_ ?_ ?_ ?_
      · intro b s₁ Y y; cases b <;> first | exact wpAny_pure y | exact wpAny_rule y
      · first | (split <;> first | exact w2 | exact SetTable.fits_plain_off w2) | exact w2
      · first | (split <;> exact w3) | exact w3
      · first | (split <;> exact c7) | exact c7
      · intro h' sb r; dsimp only; exact wpAny_pure (q h' _ sb r)
    · refine wpAny_bind (wpAny_pure ?_)
      simp only [↓reduceIte]
      refine tx_store ?_ g1 g2 g3 c1 c2 c3 c4 w2 w3 c7 ?_
      · intro b s₁ Y y; cases b <;> first | exact wpAny_pure y | exact wpAny_rule y
      · intro h' sb r; dsimp only; exact wpAny_pure (q h' _ sb r)
theorem tx_fresh {h : Heap} (w : World) : TxSet w (h.push { cls := .type "set", dict := none, data := .set #[] 0 (.fresh 0 0 (!w.params.followText "set-order")) }) h.objs.size [] :=
  ⟨_, #[], 0, _, Heap.get?_push_size _ rfl, ⟨rfl, rfl, rfl⟩, rfl, (fun e he => by simp at he), (by simp), (by simp), (by decide), (by rfl), List.Pairwise.nil, by
    show _ ∨ (!w.params.followText "set-order") = true
    cases w.params.followText "set-order" <;> simp⟩
/-- a.add(k) -/
theorem tx_call_add {k : Str} {tk : Tok} {Q : Value → Shared → Prop} (R : TxSet w s.heap a ks) (room : ks.length + 1 < scanBound)
    (q : ∀ h', Heap.SameBut a s.heap h' → TxSet w h' a (insS ks k) → Q .none { s with heap := h', toks := s.toks + 1 }) :
    wpAny (model P w) A (call (.builtin "set.add") [.ref a, .str k tk]) Q E s := by
  refine wpAny_call_entry F.slot_set_add (R.of (P := P)).typeIs F.entry_set_add ?_ (F.args_set_add_2 _ _)
  unfold Builtin.«set.add» Builtin.Frozenset.oneOther
  simp only [List.isEmpty_nil, bind_assoc]
  unfold Builtin.Frozenset.addrOf setAdd
  refine wpAny_bind (wpAny_pure ?_)
  try dsimp only
  refine wpAny_bind (wpAny_pure ?_)
  try dsimp only
  refine wpAny_bind (wpAny_holding (wpAny_bind ((strKind P w).pyHash (beq_self_eq_true k) ?_)))
  refine tx_add (s := { s with toks := s.toks + 1 }) R room fun h' b sb r => ?_
  show wpAny _ _ (ret Value.none) _ _ _
  exact wpAny_pure ⟨_, rfl, q h' sb r⟩
end
end Z

set_option Elab.async false
set_option linter.all false
set_option maxRecDepth 100000
set_option maxHeartbeats 2000000
/-! Sets of texts: the comprehension. -/
namespace Z
open PySem PySem.Spec PyProof.Rows L2
def TSO (w : World) (a : Addr) (ks : List Str) : HO := .ext fun h => TxSet w h a ks
theorem TxSet.there {w : World} {h : Heap} {a : Addr} {ks : List Str} (R : TxSet w h a ks) : ∃ u, h.get? a = some u := by
  obtain ⟨ob, _, _, _, g, _⟩ := R
  exact ⟨ob, g⟩
theorem tso_new {w : World} {P : Program} {H : Hp} {h : Heap} {a : Addr} {ks : List Str} (R : TxSet w h a ks) : ObjOk P w H h a (TSO w a ks) :=
  ⟨R, R.there, fun _ _ p k => TxSet.stay p k⟩
abbrev setObj0 (w : World) : Obj := { cls := .type "set", dict := none, data := .set #[] 0 (.fresh 0 0 (!w.params.followText "set-order")) }
section
variable {X : Cx}
theorem tso_get {ps : List (Addr × Obj)} {σ : L2.St} {H : Hp} {s : Shared} {a : Addr} {ks : List Str} (I : Inv X ps σ H s) (ha : H a = some (TSO X.w a ks)) : TxSet X.w s.heap a ks := (I.hok a _ ha).1
theorem tso_add {ps : List (Addr × Obj)} {σ : L2.St} {H : Hp} {s : Shared} {E : Value → Shared → Prop} {D : Addr} {ks : List Str} {k : Str} {tk : Tok} {Q : Value → Shared → Prop}
    (I : Inv X ps σ H s) (hD : H D = some (TSO X.w D ks)) (room : ks.length + 1 < scanBound) (q : ∀ s', Inv X ps σ (upd H D (TSO X.w D (insS ks k))) s' → Q .none s') :
    wpAny (model X.prog X.w) X.A (call (.builtin "set.add") [.ref D, .str k tk]) Q E s :=
  tx_call_add (tso_get I hD) room fun h' sb R =>
    q _ (I.write (e := D) (t' := s.toks + 1) (by rw [hD]; trivial) (.inl rfl) (fun b u hb hu => (sb.2 b hb).trans hu) R.there (tso_new R))
/-- {elt for target in iter if ..} of texts: D the new set -/
def tSs (w : World) (wi : TI) (g : TG) (tt : TT) (te : TE) (vs : List Nat) : TE := fun σ H Q => wi σ H fun J H1 => ∀ D, H1 D = none → ∃ W : Nat → Nat → Hp → Prop, (∃ m, W 0 m (upd H1 D (TSO w D []))) ∧ ∀ i m H, W i m H →
  (J.stop i H ∧ Q (.ref D) H) ∨ (J.go i H ∧ ∃ Nx : Hp → Prop, (∀ H', Nx H' → ∃ m', m' < m ∧ W (i + 1) m' H') ∧ ∀ x H', J.yld i H x H' → g x (L2.wipe σ vs) H' fun σ2 H2 => L2.wipe σ2 vs = L2.wipe σ vs ∧ tt σ2 H2 fun b H3 =>
    if b = true then te σ2 H3 fun y H4 => ∃ (k : Str) (ks : List Str), y = .str k ∧ H4 D = some (TSO w D ks) ∧ ks.length + 1 < scanBound ∧ Nx (upd H4 D (TSO w D (insS ks k))) else Nx H3)
abbrev InBlk (X : Cx) (scope : Scope) (Y : Cx → Prop) : Prop := ∀ (s : Shared) (H : Hp) (C : Addr) (cl : List (PySem.Str × Addr)) (fp : List Addr), Y (X.blk s H scope (compEnvC scope cl C X.env) fp)
theorem pe_ss {elt tg iter : Expr} {ifs : List Expr} {scope : Scope} {own : List (PySem.Str × Nat)} {pos : Pos} {wi : TI} {g : TG} {tt : TT} {te : TE} (hc : X.calm = true) (nd : X.N.Nodup) (pi : PI X tg iter wi) (ok : BlkOk X.N X.env.scope scope own)
    (hg : InBlk X scope fun Y => PG Y tg g) (ht : InBlk X scope fun Y => PTs Y ifs tt) (he : InBlk X scope fun Y => PE Y elt te) (hs : ∀ x, foldedSetIterable iter X.env x = pure x) :
    PE X (.SetComp elt [⟨tg, iter, ifs, 0⟩] scope pos) (tSs X.w wi g tt te (own.map (·.2))) := by
  refine ⟨fun ps s σ H Q I h => ?_⟩
  rw [PpSet.eval_SetComp]
  have free : ∀ y ∈ scope.names, y.2 = .free → ∃ c, X.env.cells.lookup y.1 = some c := fun y hy e => (ok.free y hy e).elim (fun k => I.ok.has _ (.inl k)) fun k => I.ok.has _ (.inr k)
  refine wpAny_comprehension_free (use := none) rfl hs (closure_ok free) ok.kind (fun y hy e => by rw [ok.uniq y hy, e]) (thn (pi.run ps s σ H _ I h) fun xv s1 hx => thn hx fun itv s2 h2 => ?_)
  obtain ⟨it, fp, tn, J, H2, rfl, I2, T, st2, f2, q⟩ := h2
  refine PpSet.newSet_ok (newEnv_comp ?_)
  generalize hD : s2.heap.objs.size = D
  have none2 : H2 D = none := I2.hok.fresh (Nat.le_of_eq hD)
  obtain ⟨W, ⟨m0, w0⟩, turn⟩ := q D none2
  generalize e3 : ({ s2 with heap := s2.heap.push (setObj0 X.w) } : Shared) = s3
  have p3 : s3.heap = s2.heap.push (setObj0 X.w) := by rw [← e3]
  have I3 : Inv X ps σ (upd H2 D (TSO X.w D [])) s3 := by
    rw [← e3]
    refine I2.laid (t' := s2.toks) (fun b o e => Heap.get?_push_of_some _ e) (Nat.le_of_eq hD) ?_
    rw [← hD]
    exact tso_new (tx_fresh X.w)
  have small : ∀ b ∈ fp, b < s2.heap.objs.size := fun b hb => by
    obtain ⟨o, e, _⟩ := T.obj _ _ st2 b hb
    exact Heap.lt_size e
  have f3 : ∀ b ∈ fp, FpOk X ps (upd H2 D (TSO X.w D [])) b ∧ b < s3.heap.objs.size := fun b hb =>
    ⟨⟨by rw [upd_ne (by rw [← hD]; exact Nat.ne_of_lt (small b hb))]; exact (f2 b hb).1, (f2 b hb).2⟩, by rw [p3, Heap.size_push]; exact Nat.lt_succ_of_lt (small b hb)⟩
  have st3 : tn 0 s3.heap := T.keep _ _ _ st2 fun b _ o e => by rw [p3]; exact Heap.get?_push_of_some _ e
  have I4 := block_start I3 ok nd f3
  show codeAny _ _ (.compStart (.SetComp elt [⟨tg, iter, ifs, 0⟩] scope pos) 0 (.ref it) (.ref D) (compEnvC scope (cellsFrom (s3.heap.objs.size + 1) scope.names (cloFrom X.env.cells scope.names [])) s3.heap.objs.size X.env)) (compPost (model X.prog X.w) X.A X.xe none (EP X ps σ Q) (.ref D) s3.heap.objs.size)
    { s3 with heap := pushCells (s3.heap.push { cls := .type "dict", data := .dict #[] }) scope.names }
  generalize hcl : cellsFrom (s3.heap.objs.size + 1) scope.names (cloFrom X.env.cells scope.names []) = cl at I4 ⊢
  have pg := hg s3 (upd H2 D (TSO X.w D [])) s3.heap.objs.size cl fp
  have pt := ht s3 (upd H2 D (TSO X.w D [])) s3.heap.objs.size cl fp
  have pe := he s3 (upd H2 D (TSO X.w D [])) s3.heap.objs.size cl fp
  have nfp : ∀ b ∈ fp, (upd H2 D (TSO X.w D [])) b = none := fun b hb => (f3 b hb).1.1
  generalize hce : compEnvC scope cl s3.heap.objs.size X.env = ce at I4 pg pt pe ⊢
  have cL : ce.locals = s3.heap.objs.size := by subst hce; rfl
  generalize upd H2 D (TSO X.w D []) = H3 at I3 I4 pg pt pe w0 nfp f3
  generalize hs4 : ({ s3 with heap := pushCells (s3.heap.push { cls := .type "dict", data := .dict #[] }) scope.names } : Shared) = s4 at I4 ⊢
  have st4 : tn 0 s4.heap := T.keep _ _ _ st3 fun b _ o e => by rw [← hs4]; exact pushCells_keeps _ _ _ _ (Heap.get?_push_of_some _ e)
  have stat : ∀ {σ' : L2.St} {H' : Hp} {s' : Shared}, Inv (X.blk s3 H3 scope ce fp) [] σ' H' s' → (∀ b ∈ fp, H' b = none) → ∀ b ∈ fp, FpOk (X.blk s3 H3 scope ce fp) [] H' b := fun {σ' H' s'} J n b hb =>
    ⟨n b hb, (J.ok.exf b hb).1, J.ok.exfs b hb, .inl hb, fun x c e => (J.ok.exf b hb).2 x c e, fun p hp => absurd (show p ∈ ([] : List (Addr × Obj)) ++ [] from hp) (by simp)⟩
  have post : ∀ s' m H', Inv X ps σ H' s' → Q (.ref D) H' → s'.heap.Ns s3.heap.objs.size m → FpOk X ps H' s3.heap.objs.size → compPost (model X.prog X.w) X.A X.xe none (EP X ps σ Q) (.ref D) s3.heap.objs.size (.ok .next) s' := fun s' m H' J y n f => by
    obtain ⟨f0, f1, f2, f3, f4, f5⟩ := f
    exact ⟨m, n, fun h'' sb => ⟨.ref D, H', J.turned (t' := s'.toks) (fun b o hb e => (sb.2 b hb).trans e) f0 f1 f3 f4 f5, rfl, y⟩⟩
  have loop : codeAny (model X.prog X.w) X.A (.compLoop (.SetComp elt [⟨tg, iter, ifs, 0⟩] scope pos) 0 (.ref it) (.ref D) ce) (compPost (model X.prog X.w) X.A X.xe none (EP X ps σ Q) (.ref D) s3.heap.objs.size) s4 := by
    refine PpSet.compLoopS_any (fun n s' => ∃ i H', Inv (X.blk s3 H3 scope ce fp) [] (L2.wipe σ (own.map (·.2))) H' s' ∧ tn i s'.heap ∧ (∀ b ∈ fp, H' b = none) ∧ W i n H') ?_ m0 ⟨0, H3, I4, st4, nfp, w0⟩
    rintro n s5 ⟨i, H5, I5, st5, n5, w5⟩
    rcases turn i n H5 w5 with ⟨stop, qq⟩ | ⟨go, Nx, hNx, step⟩
    · refine thnF (T.done (X.blk s3 H3 scope ce fp) rfl rfl rfl hc i [] s5 _ H5 (fun _ _ => False) I5 (stat I5 n5) st5 stop) fun r s6 ⟨hr, I6⟩ => ?_
      subst hr
      have I7 : Inv X ps σ H5 s6 := I3.call' (ch := fp) I6.os I6.base I6.hok I6.bare fun b hb => by
        obtain ⟨⟨_, y1, _, y3, y4, y5⟩, _⟩ := f3 b hb
        exact ⟨y3, y1, y4, y5⟩
      have nC : H5 s3.heap.objs.size = none := cL ▸ (show H5 ce.locals = none from I6.free)
      obtain ⟨m, hn, _⟩ := I6.loc
      exact post s6 m H5 I7 qq (cL ▸ (show s6.heap.Ns ce.locals m from hn)) (I3.fpOk (Nat.le_refl _) nC)
    · refine thnF (T.item (X.blk s3 H3 scope ce fp) rfl rfl rfl hc i [] s5 _ H5 (fun _ _ => False) I5 (stat I5 n5) st5 go) fun r s6 ⟨u, hr, h6⟩ => ?_
      subst hr
      refine thnF h6 fun _ s7 ⟨x, H7, I7, r7, y7, st7, n7⟩ => ?_
      refine thnF (pg.run _ s7 _ H7 x u _ (I7.pinned (stat I7 n7) (T.obj _ _ st7)) r7 (step x H7 y7)) fun _ s8 ⟨σ8, H8, I8, w8, q8⟩ => ?_
      refine thnF (pt.run _ s8 σ8 H8 _ I8 q8) fun b s9 ⟨H9, I9, q9⟩ => ?_
      have fin : ∀ {s' : Shared} {H' : Hp}, Inv (X.blk s3 H3 scope ce fp) ([] ++ pinsAt fp s7.heap) σ8 H' s' → Nx H' → ∃ m, m < n ∧ ∃ i H', Inv (X.blk s3 H3 scope ce fp) [] (L2.wipe σ (own.map (·.2))) H' s' ∧ tn i s'.heap ∧ (∀ b ∈ fp, H' b = none) ∧ W i m H' := fun {s' H'} J nx => by
        obtain ⟨m', lt, w'⟩ := hNx H' nx
        have pin : ∀ b ∈ fp, ∀ o, s7.heap.get? b = some o → s'.heap.get? b = some o ∧ H' b = none := fun b hb o e =>
          have z := J.pin (b, o) (List.mem_append_right _ (List.mem_append_right _ (mem_pinsAt hb e)))
          ⟨z.1, z.2.1⟩
        refine ⟨m', lt, i + 1, H', (J.unpinned (pins := [])).weak (by rw [← w8, L2.wipe_length]) (fun j v e => (L2.wipe_some (w8 ▸ e)).1), T.keep _ _ _ st7 fun b hb o e => (pin b hb o e).1, fun b hb => ?_, w'⟩
        obtain ⟨o, e, _⟩ := T.obj _ _ st7 b hb
        exact (pin b hb o e).2
      cases b with
      | false =>
        rw [if_neg Bool.false_ne_true] at q9 ⊢
        exact fin I9 q9
      | true =>
        rw [if_pos rfl] at q9 ⊢
        refine thnF (pe.run _ s9 σ8 H9 _ I9 q9) fun z s10 ⟨yv, H10, I10, r10, k, ks, ey, hD10, room, nx⟩ => ?_
        subst ey
        obtain ⟨tk, rfl⟩ := r10
        exact tso_add (X := X.blk s3 H3 scope ce fp) I10 hD10 room fun s11 I11 => fin I11 nx
  exact PpSet.codeAny_compStart_set loop (T.self X.A 0 _ _ _ st4 loop)
end
end Z

set_option Elab.async false
set_option linter.all false
set_option maxRecDepth 100000
set_option maxHeartbeats 2000000
namespace Z
open PySem PySem.Spec PyProof.Rows L2
theorem mapstr_inj : ∀ {a b : List (List Nat)}, a.map D.str = b.map D.str → a = b
  | [], [], _ => rfl
  | [], _ :: _, h => by simp at h
  | _ :: _, [], h => by simp at h
  | x :: a, y :: b, h => by
    simp only [List.map_cons, List.cons.injEq, D.str.injEq] at h
    rw [h.1, mapstr_inj h.2]
theorem mapstr_cons {x : D} {zs : List D} : ∀ {l : List (List Nat)}, x :: zs = l.map D.str → ∃ k r, l = k :: r ∧ x = .str k ∧ zs = r.map D.str
  | [], h => by simp at h
  | k :: r, h => by
    simp only [List.map_cons, List.cons.injEq] at h
    exact ⟨k, r, rfl, h.1, h.2⟩
theorem insS_len : ∀ (ls ks : List Str), (ls.foldl insS ks).length ≤ ks.length + ls.length
  | [], ks => by simp
  | k :: ls, ks => by
    have := insS_len ls (insS ks k)
    have : (insS ks k).length ≤ ks.length + 1 := by unfold insS; split <;> simp
    simp only [List.foldl_cons, List.length_cons]
    omega
theorem tE_ss {K : Kw} {mvs vws mvc mve : List Nat} {fs : Env → R (List D)} {fc fe : Env → R D} {tg : T} {own : List Nat} (hd : disj vws (minus (tg.sl ++ mvc ++ mve) own) = true) (ho : ∀ i ∈ tg.sl, i ∈ own) {σ : L2.St} {H : Hp} {Q : VK}
    (h : ∃ F s fps, Rel K F H σ s fps ∧ match fComp tg own fs fc fe s with
      | .ok d s' => ∃ ls : List (List Nat), d = .lst true (ls.map .str) ∧ ls.length + 1 < scanBound ∧ ∀ D H' F' fps', Rel K F' H' σ s' fps' → Stp (mvs ++ minus (tg.sl ++ mvc ++ mve) own) F H s fps F' H' s' fps' → H' D = some (TSO K.w D ((ls.map SX.S).foldl insS [])) → F' D = none → (∀ j, D ∉ fps' j) → H D = none → (∀ y ∈ ls, asc y = true) → Q (.ref D) H'
      | _ => False) : tSs K.w (tR K mvs vws fs) (gT K tg) (tT K mvc fc) (tE K mve [] fe) own σ H Q := by
  obtain ⟨F, s, fps, R, h⟩ := h
  refine ⟨F, s, fps, R, ?_⟩
  try dsimp only [fComp] at h
  cases e : fs s with
  | exc x s' => rw [e] at h; exact h
  | bad => rw [e] at h; exact h
  | ok xs s1 =>
    rw [e] at h
    simp only [bind_ok] at h
    by_cases hSL : SL < xs.length
    · rw [if_pos hSL] at h; exact h.elim
    rw [if_neg hSL] at h
    refine fun J pr H1 F1 fps1 R1 st1 it hp => fun Dd hDd => ?_
    have hFD : F1 Dd = none := by
      cases q : F1 Dd with
      | none => rfl
      | some o => rw [R1.sub _ _ q] at hDd; cases hDd
    have x0 := Ext.own (o := TSO K.w Dd []) R1.sub hDd
    have Rw0 := (R1.wiped own).ext x0
    refine ⟨fun i m H2 => m = xs.length - i ∧ i ≤ xs.length ∧ ∃ F2 s2 fps2, ∃ ys : List (List Nat), Rel K F2 H2 (L2.wipe σ own) (Z.wipe s2 own) (wf own fps2) ∧ s2.length = s1.length ∧ Stp (minus (tg.sl ++ mvc ++ mve) own) F1 H1 (Z.wipe s1 own) (wf own fps1) F2 H2 (Z.wipe s2 own) (wf own fps2) ∧
      H2 Dd = some (TSO K.w Dd ((ys.map SX.S).foldl insS [])) ∧ F2 Dd = none ∧ (∀ j, Dd ∉ wf own fps2 j) ∧ (∀ y ∈ ys, asc y = true) ∧
      match compL (fBody tg own fc fe) (xs.drop i) s2 with
      | .ok zs s3 => ∃ ls : List (List Nat), .lst true (ys.map .str ++ zs) = D.lst true (ls.map .str) ∧ ls.length + 1 < scanBound ∧ ∀ D H' F' fps', Rel K F' H' σ (restore s1 s3 own) fps' → Stp (mvs ++ minus (tg.sl ++ mvc ++ mve) own) F H s fps F' H' (restore s1 s3 own) fps' → H' D = some (TSO K.w D ((ls.map SX.S).foldl insS [])) → F' D = none → (∀ j, D ∉ fps' j) → H D = none → (∀ y ∈ ls, asc y = true) → Q (.ref D) H'
      | _ => False, ⟨xs.length, by simp, Nat.zero_le _, F1, s1, fps1, [], Rw0, rfl, x0.stp, upd_same, hFD, fun j z => ?_, fun _ z => (nomatch z), ?_⟩, ?_⟩
    · by_cases hj : j ∈ own
      · rw [wf_in hj] at z; cases z
      · rw [wf_out hj] at z
        obtain ⟨_, o, ho, _⟩ := R1.there z
        rw [hDd] at ho; cases ho
    · rw [List.drop_zero]
      cases ec : compL (fBody tg own fc fe) xs s1 with
      | exc x s' => rw [ec] at h; exact h
      | bad => rw [ec] at h; exact h
      | ok zs s3 =>
        rw [ec] at h
        simp only [bind_ok] at h
        simpa using h
    rintro i m H2 ⟨rfl, hi, F2, s2, fps2, ys, R2, l2, st2, hacc, hFD2, hDf, hys, h2⟩
    have prot : ∀ a ∈ pr, ∀ o, H1 a = some o → H2 a = some o := fun a ha o e => by
      refine st2.h a o e fun j hj z => ?_
      obtain ⟨_, hjo⟩ := mem_minus.mp hj
      rw [wf_out hjo] at z
      rcases (hp a ha).2 with ⟨k, hk, q⟩ | q
      · exact R1.dis k j (fun e => disj_not hd hk (e ▸ hj)) a q z
      · exact q j z
    by_cases hlt : i < xs.length
    · have e1 : xs[i]? = some xs[i] := List.getElem?_eq_getElem hlt
      obtain ⟨hgo, hy⟩ := it.go i F2 H2 st2.f R2.sub prot _ e1
      rw [List.drop_eq_getElem_cons hlt] at h2
      unfold compL at h2
      refine .inr ⟨hgo, fun H3 => (i + 1 ≤ xs.length ∧ ∃ F3 s3 fps3, ∃ ys : List (List Nat), Rel K F3 H3 (L2.wipe σ own) (Z.wipe s3 own) (wf own fps3) ∧ s3.length = s1.length ∧ Stp (minus (tg.sl ++ mvc ++ mve) own) F1 H1 (Z.wipe s1 own) (wf own fps1) F3 H3 (Z.wipe s3 own) (wf own fps3) ∧
        H3 Dd = some (TSO K.w Dd ((ys.map SX.S).foldl insS [])) ∧ F3 Dd = none ∧ (∀ j, Dd ∉ wf own fps3 j) ∧ (∀ y ∈ ys, asc y = true) ∧
        match compL (fBody tg own fc fe) (xs.drop (i + 1)) s3 with
        | .ok zs s3 => ∃ ls : List (List Nat), .lst true (ys.map .str ++ zs) = D.lst true (ls.map .str) ∧ ls.length + 1 < scanBound ∧ ∀ D H' F' fps', Rel K F' H' σ (restore s1 s3 own) fps' → Stp (mvs ++ minus (tg.sl ++ mvc ++ mve) own) F H s fps F' H' (restore s1 s3 own) fps' → H' D = some (TSO K.w D ((ls.map SX.S).foldl insS [])) → F' D = none → (∀ j, D ∉ fps' j) → H D = none → (∀ y ∈ ls, asc y = true) → Q (.ref D) H'
        | _ => False), fun H' hN => ⟨xs.length - (i + 1), by omega, rfl, hN⟩, fun x H3 y => ?_⟩
      obtain ⟨F3, x3, r3⟩ := hy x H3 y
      have R3 := R2.ext x3
      cases ea : assignT tg xs[i] (Z.wipe s2 own) with
      | none => rw [fBody_none ea] at h2; exact h2.elim
      | some s4 =>
        rw [fBody_some ea] at h2
        refine tgt (fp := []) R3 r3 (fun a ha => nomatch ha) ea fun σ' fps4 R4 k4 A => ?_
        have l4 : s4.length = s1.length := by rw [assignT_len ea, wipe_len, l2]
        have hσ : σ'.length = σ.length := by rw [← R4.len, l4, ← R1.len]
        refine ⟨wipe_kp k4 hσ ho, ?_⟩
        have st3 : Stp (minus (tg.sl ++ mvc ++ mve) own) F1 H1 (Z.wipe s1 own) (wf own fps1) F3 H3 (Z.wipe s2 own) (wf own fps2) := by
          have q := st2.trans (x3.stp (mv := []) (s := Z.wipe s2 own) (fps := wf own fps2))
          rw [List.append_nil] at q
          exact q
        have st4 : Stp (minus (tg.sl ++ mvc ++ mve) own ++ tg.sl) F1 H1 (Z.wipe s1 own) (wf own fps1) F3 H3 s4 fps4 := A.stp st3 fun a ha => nomatch ha
        -- the list so far stands through what follows
        have keepA : ∀ {mv : List Nat} {F5 H5 : Hp} {s5 : Env} {fps5 : Fps}, Stp mv F3 H3 s4 fps4 F5 H5 s5 fps5 → Rel K F5 H5 σ' s5 fps5 → H5 Dd = some (TSO K.w Dd ((ys.map SX.S).foldl insS [])) ∧ F5 Dd = none ∧ (∀ j, Dd ∉ fps5 j) := by
          intro mv F5 H5 s5 fps5 st5 R5
          have d4 : ∀ j, Dd ∉ fps4 j := fun j z => by
            by_cases hj : j ∈ tg.sl
            · rcases A.i j hj Dd z with q | q
              · cases q
              · exact hDf j q
            · rw [(A.o j hj).2] at z
              exact hDf j z
          have hD3 := x3.h _ _ hacc
          have hF3D : F3 Dd = none := (x3.keep ⟨hFD2, _, hacc, trivial⟩).2
          refine ⟨st5.h _ _ hD3 fun j _ => d4 j, ?_, fun j z => ?_⟩
          · cases q : F5 Dd with
            | none => rfl
            | some u =>
              rcases st5.nf Dd (by rw [q]; exact Option.some_ne_none _) with w | w | ⟨j, _, w⟩
              · exact absurd hF3D w
              · rw [hD3] at w; cases w
              · exact absurd w (d4 j)
          · rcases st5.back z with q | ⟨k, _, q⟩ | ⟨_, q⟩
            · rw [hD3] at q; cases q
            · exact d4 k q
            · exact d4 j q
        have toI : ∀ {mv : List Nat} {F5 H5 : Hp} {s5 : Env} {fps5 : Fps}, (∀ j ∈ mv, j ∈ mvc ++ mve) → Stp mv F3 H3 s4 fps4 F5 H5 s5 fps5 → Stp (minus (tg.sl ++ mvc ++ mve) own) F1 H1 (Z.wipe s1 own) (wf own fps1) F5 H5 (Z.wipe s5 own) (wf own fps5) := by
          intro mv F5 H5 s5 fps5 hm st5
          refine ((st4.trans st5).wiped).weak fun j hj => ?_
          obtain ⟨q1, q2⟩ := mem_minus.mp hj
          refine mem_minus.mpr ⟨?_, q2⟩
          rcases List.mem_append.mp q1 with q | q
          · rcases List.mem_append.mp q with q | q
            · exact (mem_minus.mp q).1
            · exact List.mem_append_left _ (List.mem_append_left _ q)
          · rcases List.mem_append.mp (hm j q) with q | q
            · exact List.mem_append_left _ (List.mem_append_right _ q)
            · exact List.mem_append_right _ q
        have wout : ∀ {a : Addr} {fps5 : Fps}, (∀ j, a ∉ fps5 j) → ∀ j, a ∉ wf own fps5 j := fun {a fps5} ha j z => by
          by_cases hj : j ∈ own
          · rw [wf_in hj] at z; cases z
          · rw [wf_out hj] at z; exact ha j z
        have wk : ∀ {τ : L2.St}, L2.wipe σ' own = L2.wipe σ own := wipe_kp k4 hσ ho
        refine ⟨F3, s4, fps4, R4, ?_⟩
        cases ec : fc s4 with
        | exc x s' => rw [ec] at h2; exact h2.elim
        | bad => rw [ec] at h2; exact h2.elim
        | ok db s5 =>
          rw [ec] at h2
          simp only [bind_ok] at h2
          try dsimp only
          cases eb : asB db with
          | none => rw [eb] at h2; exact h2.elim
          | some b =>
            rw [eb] at h2
            try dsimp only
            refine fun H5 F5 fps5 R5 st5 => ?_
            have l5 : s5.length = s1.length := by rw [R5.len, hσ, R1.len]
            cases b with
            | false =>
              simp only [bind_ok, Option.toList_none, List.nil_append] at h2
              obtain ⟨k1, k2, k3⟩ := keepA st5 R5
              show i + 1 ≤ xs.length ∧ _
              refine ⟨hlt, F5, s5, fps5, ys, ?_, l5, toI (fun j hj => List.mem_append_left _ hj) st5, k1, k2, wout k3, hys, ?_⟩
              · have q := R5.wiped own
                rw [wk (τ := σ)] at q
                exact q
              · cases ec2 : compL (fBody tg own fc fe) (xs.drop (i + 1)) s5 with
                | exc x s' => rw [ec2] at h2; exact h2.elim
                | bad => rw [ec2] at h2; exact h2.elim
                | ok zs s7 =>
                  rw [ec2] at h2
                  exact h2
            | true =>
              try dsimp only at h2
              show tE K mve [] fe σ' H5 _
              refine ⟨F5, s5, fps5, R5, ?_⟩
              cases ee : fe s5 with
              | exc x s' => rw [ee] at h2; exact h2.elim
              | bad => rw [ee] at h2; exact h2.elim
              | ok dy s6 =>
                rw [ee] at h2
                simp only [bind_ok, Option.toList_some] at h2
                refine fun yv H6 F6 fps6 fp6 R6 st6 rs6 => ?_
                have st56 := st5.trans st6
                obtain ⟨k1, k2, k3⟩ := keepA st56 R6
                have l6 : s6.length = s1.length := by rw [R6.len, hσ, R1.len]
                cases ec2 : compL (fBody tg own fc fe) (xs.drop (i + 1)) s6 with
                | exc x s' => rw [ec2] at h2; exact h2.elim
                | bad => rw [ec2] at h2; exact h2.elim
                | ok zs s7 =>
                rw [ec2] at h2
                simp only [bind_ok] at h2
                obtain ⟨ls, el, bl, h2⟩ := h2
                have el : ys.map D.str ++ (dy :: zs) = ls.map D.str := by
                  injection el with _ e
                obtain ⟨l1, l2', hl, q1, q2⟩ := List.append_eq_map_iff.mp el
                obtain ⟨k, l3, hl2, q3, q4⟩ := mapstr_cons q2.symm
                subst q3
                have q1 : ys = l1 := (mapstr_inj q1).symm
                subst q1 hl2 hl
                obtain ⟨rfl, rfl, hk⟩ := rep_str rs6.rep
                have room : ((ys.map SX.S).foldl insS []).length + 1 < scanBound := by
                  have := insS_len (ys.map SX.S) []
                  simp only [List.length_map, List.length_append, List.length_cons, List.length_nil] at bl this
                  omega
                refine ⟨SX.S k, _, rfl, k1, room, ?_⟩
                have hu : ∀ b : Addr, b ≠ Dd → ∀ o, H6 b = some o → (upd H6 Dd (TSO K.w Dd (insS ((ys.map SX.S).foldl insS []) (SX.S k)))) b = some o := fun b hb o e => by rw [upd_ne hb]; exact e
                have R7 : Rel K F6 (upd H6 Dd (TSO K.w Dd (insS ((ys.map SX.S).foldl insS []) (SX.S k)))) σ' s6 fps6 := ⟨fun a o e => hu a (fun z => by rw [z, k2] at e; cases e) o (R6.sub a o e), R6.len, fun j d e => by
                  obtain ⟨w, w1, w2⟩ := R6.rep j d e
                  exact ⟨w, w1, w2.mono (fun _ _ e => e) fun a ha => ⟨hu a fun z => k3 j (z ▸ ha), (w2.own a ha).1⟩⟩, R6.nil, R6.dis⟩
                have stI := toI (fun j hj => hj) st56
                have stI7 : Stp (minus (tg.sl ++ mvc ++ mve) own) F1 H1 (Z.wipe s1 own) (wf own fps1) F6 (upd H6 Dd (TSO K.w Dd (insS ((ys.map SX.S).foldl insS []) (SX.S k)))) (Z.wipe s6 own) (wf own fps6) := ⟨stI.f, fun a o e k => hu a (fun z => by rw [z, hDd] at e; cases e) o (stI.h a o e k), stI.nf, stI.u, stI.o, fun a e => by
                  by_cases hb : a = Dd
                  · subst hb; rw [upd_same] at e; cases e
                  · rw [upd_ne hb] at e; exact stI.d a e⟩
                show i + 1 ≤ xs.length ∧ _
                have ef : ((ys ++ [k]).map SX.S).foldl insS [] = insS ((ys.map SX.S).foldl insS []) (SX.S k) := by rw [List.map_append, List.foldl_append]; rfl
                refine ⟨hlt, F6, s6, fps6, ys ++ [k], ?_, l6, stI7, by rw [ef]; exact upd_same, k2, wout k3, fun y hy => (List.mem_append.mp hy).elim (hys y) fun z => by rw [List.mem_singleton.mp z]; exact hk, ?_⟩
                · have q := R7.wiped own
                  rw [wk (τ := σ)] at q
                  exact q
                · rw [ec2]
                  refine ⟨ys ++ k :: l3, ?_, bl, h2⟩
                  rw [q4]
                  simp
    · have : i = xs.length := by omega
      subst this
      refine .inl ⟨it.stop _ F2 H2 st2.f R2.sub prot (Nat.le_refl _), ?_⟩
      rw [List.drop_length] at h2
      unfold compL at h2
      try dsimp only at h2
      rw [List.append_nil] at h2
      obtain ⟨ls, el, _, h2⟩ := h2
      have el : ys = ls := mapstr_inj (by simpa using el)
      subst el
      have ll : s1.length = s2.length := l2.symm
      have old : ∀ (j : Nat), j ∈ own → ∀ a ∈ fps1 j, (∀ o, H1 a = some o → H2 a = some o) ∧ F2 a = none ∧ ∀ k, a ∉ wf own fps2 k := fun j hj a ha => by
        have nin : ∀ k, a ∉ wf own fps1 k := fun k z => by
          by_cases hk : k ∈ own
          · rw [wf_in hk] at z; cases z
          · rw [wf_out hk] at z
            exact R1.dis j k (fun e => hk (e ▸ hj)) a ha z
        obtain ⟨q1, o, q2, _⟩ := R1.there ha
        refine ⟨fun o e => st2.h a o e fun k _ => nin k, ?_, fun k z => ?_⟩
        · cases q : F2 a with
          | none => rfl
          | some u =>
            rcases st2.nf a (by rw [q]; exact Option.some_ne_none _) with w | w | ⟨k, _, w⟩
            · exact absurd q1 w
            · rw [q2] at w; cases w
            · exact absurd w (nin k)
        · rcases st2.back z with w | ⟨k', _, w⟩ | ⟨_, w⟩
          · rw [q2] at w; cases w
          · exact nin k' w
          · exact nin k w
      refine h2 Dd H2 F2 (fun j => if j ∈ own then fps1 j else wf own fps2 j) ⟨R2.sub, ?_, fun j d e => ?_, fun j e => ?_, fun j k hjk a ha => ?_⟩ ⟨fun a o e => st2.f a o (st1.f a o e), fun a o e k => ?_, fun a e => ?_, fun j hj a ha => ?_, fun j hj => ?_, fun a e => st1.d a (st2.d a e)⟩ hacc hFD2 (fun j z => ?_) (st1.d _ hDd) hys
      · rw [restore_len, ← ll]; exact R1.len
      · rw [get_restore ll] at e
        by_cases hj : j ∈ own
        · rw [if_pos hj] at e
          obtain ⟨v, w1, w2⟩ := R1.rep j d e
          refine ⟨v, w1, ?_⟩
          simp only [if_pos hj]
          exact w2.mono st2.f fun a ha => ⟨(old j hj a ha).1, (old j hj a ha).2.1⟩
        · rw [if_neg hj] at e
          obtain ⟨v, w1, w2⟩ := R2.rep j d (by rw [get_wipe, if_neg hj]; exact e)
          rw [L2.wipe_out hj] at w1
          refine ⟨v, w1, ?_⟩
          simp only [if_neg hj]
          exact w2
      · rw [get_restore ll] at e
        by_cases hj : j ∈ own
        · rw [if_pos hj] at e
          simp only [if_pos hj]
          exact R1.nil j e
        · rw [if_neg hj] at e
          simp only [if_neg hj]
          exact R2.nil j (by rw [get_wipe, if_neg hj]; exact e)
      · by_cases hj : j ∈ own
        · simp only [if_pos hj] at ha
          by_cases hk : k ∈ own
          · simp only [if_pos hk]; exact R1.dis j k hjk a ha
          · simp only [if_neg hk]; exact (old j hj a ha).2.2 k
        · simp only [if_neg hj] at ha
          by_cases hk : k ∈ own
          · simp only [if_pos hk]; exact fun z => (old k hk a z).2.2 j ha
          · simp only [if_neg hk]; exact R2.dis j k hjk a ha
      · refine st2.h a o (st1.h a o e fun j hj => k j (List.mem_append_left _ hj)) fun j hj z => ?_
        obtain ⟨_, hjo⟩ := mem_minus.mp hj
        rw [wf_out hjo] at z
        rcases st1.back z with w | ⟨i', hi', w⟩ | ⟨_, w⟩
        · rw [e] at w; cases w
        · exact k i' (List.mem_append_left _ hi') w
        · exact k j (List.mem_append_right _ hj) w
      · rcases st2.nf a e with q | q | ⟨j, hj, q⟩
        · rcases st1.nf a q with q | q | ⟨j, hj, q⟩
          · exact .inl q
          · exact .inr (.inl q)
          · exact .inr (.inr ⟨j, List.mem_append_left _ hj, q⟩)
        · exact .inr (.inl (st1.d a q))
        · obtain ⟨_, hjo⟩ := mem_minus.mp hj
          rw [wf_out hjo] at q
          rcases st1.back q with w | ⟨i', hi', w⟩ | ⟨_, w⟩
          · exact .inr (.inl w)
          · exact .inr (.inr ⟨i', List.mem_append_left _ hi', w⟩)
          · exact .inr (.inr ⟨j, List.mem_append_right _ hj, w⟩)
      · have base : ∀ k, a ∈ fps1 k → k ∈ mvs ++ minus (tg.sl ++ mvc ++ mve) own → H a = none ∨ ∃ i ∈ mvs ++ minus (tg.sl ++ mvc ++ mve) own, a ∈ fps i := fun k z hk => by
          rcases st1.back z with w | ⟨i', hi', w⟩ | ⟨_, w⟩
          · exact .inl w
          · exact .inr ⟨i', List.mem_append_left _ hi', w⟩
          · exact .inr ⟨k, hk, w⟩
        by_cases hjo : j ∈ own
        · simp only [if_pos hjo] at ha
          exact base j ha hj
        · simp only [if_neg hjo] at ha
          rcases st2.back ha with w | ⟨k, hk, w⟩ | ⟨_, w⟩
          · exact .inl (st1.d a w)
          · obtain ⟨_, hko⟩ := mem_minus.mp hk
            rw [wf_out hko] at w
            exact base k w (List.mem_append_right _ hk)
          · rw [wf_out hjo] at w
            exact base j w hj
      · have q1 := st1.o j fun z => hj (List.mem_append_left _ z)
        rw [get_restore ll]
        by_cases hjo : j ∈ own
        · simp only [if_pos hjo]
          exact q1
        · simp only [if_neg hjo]
          have q2 := st2.o j fun z => hj (List.mem_append_right _ z)
          rw [get_wipe, get_wipe, if_neg hjo, if_neg hjo] at q2
          refine ⟨q2.1.trans q1.1, ?_⟩
          rw [q2.2, wf_out hjo]
          exact q1.2
      · by_cases hjo : j ∈ own
        · simp only [if_pos hjo] at z
          obtain ⟨_, o, q2, _⟩ := R1.there z
          rw [hDd] at q2; cases q2
        · simp only [if_neg hjo] at z
          exact hDf j z
end Z

set_option Elab.async false
set_option linter.all false
set_option maxRecDepth 100000
set_option maxHeartbeats 2000000
/-! Sets of texts: sorted, len. -/
namespace Z
open PySem PySem.Spec PyProof.Rows L2
theorem S_inj {a b : List Nat} (h : SX.S a = SX.S b) : a = b := by
  have := congrArg (fun s : Str => s.cps.toList) h
  simpa [SX.S] using this
theorem insN_S (ks : List (List Nat)) (k : List Nat) : (insN ks k).map SX.S = insS (ks.map SX.S) (SX.S k) := by
  have e : SX.S k ∈ ks.map SX.S ↔ k ∈ ks := by
    rw [List.mem_map]
    exact ⟨fun ⟨x, m, q⟩ => S_inj q ▸ m, fun m => ⟨k, m, rfl⟩⟩
  unfold insN insS
  by_cases m : k ∈ ks
  · rw [if_pos m, if_pos (e.mpr m)]
  · rw [if_neg m, if_neg fun z => m (e.mp z), List.map_append]; rfl
theorem fold_S : ∀ (ls ks : List (List Nat)), (ls.map SX.S).foldl insS (ks.map SX.S) = (ls.foldl insN ks).map SX.S
  | [], _ => rfl
  | k :: ls, ks => by
    simp only [List.map_cons, List.foldl_cons]
    rw [← insN_S, fold_S ls]
theorem dst_S (ls : List (List Nat)) : (ls.map SX.S).foldl insS [] = (dst ls).map SX.S := fold_S ls []
theorem insN_mem {ks : List (List Nat)} {k x : List Nat} : x ∈ insN ks k ↔ x ∈ ks ∨ x = k := by
  unfold insN
  by_cases m : k ∈ ks
  · rw [if_pos m]
    exact ⟨.inl, fun h => h.elim id fun e => e ▸ m⟩
  · rw [if_neg m, List.mem_append, List.mem_singleton]
theorem fold_mem : ∀ (ls ks : List (List Nat)) (x : List Nat), x ∈ ls.foldl insN ks ↔ x ∈ ks ∨ x ∈ ls
  | [], ks, x => by simp
  | k :: ls, ks, x => by
    rw [List.foldl_cons, fold_mem ls, insN_mem, List.mem_cons, or_assoc]
theorem dst_mem {ls : List (List Nat)} {x : List Nat} : x ∈ dst ls ↔ x ∈ ls := by
  unfold dst
  rw [fold_mem]
  simp
theorem dst_len (ls : List (List Nat)) : (dst ls).length ≤ ls.length := by
  have := insS_len (ls.map SX.S) []
  rw [dst_S] at this
  simpa using this
/-! sorted texts do not depend on the order -/
theorem leD_str (a b : List Nat) : leD (.str a) (.str b) = decide (a ≤ b) := by
  show (!lexb b a) = _
  rw [lexb_lt]
  by_cases h : b < a
  · simp [h]
  · simp [h, List.not_lt.mp h]
theorem srt_strs (ls : List (List Nat)) : ((ls.map D.str).mergeSort leD) = (ls.mergeSort fun a b => decide (a ≤ b)).map D.str := by
  refine Eq.symm (List.map_mergeSort fun a _ b _ => ?_)
  rw [leD_str]
theorem srt_perm {a b : List (List Nat)} (p : a.Perm b) : a.mergeSort (fun a b => decide (a ≤ b)) = b.mergeSort fun a b => decide (a ≤ b) := by
  have tr : ∀ a b c : List Nat, decide (a ≤ b) = true → decide (b ≤ c) = true → decide (a ≤ c) = true := fun a b c h1 h2 => by
    rw [decide_eq_true_eq] at *
    exact List.le_trans h1 h2
  have to : ∀ a b : List Nat, (decide (a ≤ b) || decide (b ≤ a)) = true := fun a b => by
    rw [Bool.or_eq_true, decide_eq_true_eq, decide_eq_true_eq]
    exact List.le_total a b
  exact List.Perm.eq_of_pairwise (fun x y _ _ h1 h2 => List.le_antisymm (of_decide_eq_true h1) (of_decide_eq_true h2)) (List.pairwise_mergeSort tr to a) (List.pairwise_mergeSort tr to b) ((List.mergeSort_perm ..).trans (p.trans (List.mergeSort_perm ..).symm))
theorem srtOk_strs (ls : List (List Nat)) : srtOk (ls.map D.str) = true := by
  have d : depL (ls.map D.str) ≤ 64 := by
    have : depL (ls.map D.str) = 0 := by
      induction ls with
      | nil => rfl
      | cons a l ih => simp only [List.map_cons, depL, D.dep, ih]; rfl
    omega
  unfold srtOk
  rw [decide_eq_true d, Bool.true_and, Bool.and_eq_true, List.all_eq_true]
  refine ⟨fun x hx => List.all_eq_true.mpr fun y hy => ?_, ?_⟩
  · obtain ⟨a, _, rfl⟩ := List.mem_map.mp hx
    obtain ⟨b, _, rfl⟩ := List.mem_map.mp hy
    rfl
  · rw [Bool.or_eq_true]
    refine .inr (List.all_eq_true.mpr fun x hx => ?_)
    obtain ⟨a, _, rfl⟩ := List.mem_map.mp hx
    rfl
theorem srtD_strs {a b : List (List Nat)} (p : a.Perm b) (h : b.length ≤ SL) : srtD (a.map D.str) = some ((b.map D.str).mergeSort leD) := by
  unfold srtD
  rw [srtOk_strs, List.length_map, p.length_eq, decide_eq_true h]
  simp only [Bool.and_self, if_true]
  rw [srt_strs, srt_strs, srt_perm p]
end Z

set_option Elab.async false
set_option linter.all false
set_option maxRecDepth 100000
set_option maxHeartbeats 2000000
namespace Z
open PySem PySem.Spec PyProof.Rows L2
section
variable {X : Cx} {pins : List (Addr × Obj)} {σ : L2.St} {F H : Hp} {s : Shared}
theorem sorted_run2 {src : Value} {ys : List D} {Q : VK} (I : Inv X pins σ H s) (m : ∀ a o, F a = some o → H a = some o) (hu : X.A.units + 200 < cLine)
    (hcol : ∀ (R : List Value → Shared → Prop) (E : Value → Shared → Prop), (∀ s1 us vs ds, Inv X pins σ H s1 → Vals vs us → Reps X.kw F H vs ds [] → srtD ds = some ys → R us s1) → wpAny (model X.prog X.w) X.A.in1 (collect src) R E s)
    (q : ∀ p zs, H p = none → Reps X.kw F H zs ys [] → Q (.ref p) (upd H p (.lst zs))) : wpAny (model X.prog X.w) X.A (call (.builtin "sorted") [src]) (EP X pins σ Q) X.xe s := by
  refine Calls.call_function_entry PyProof.Rows.kind_sorted PyProof.Rows.plain_sorted PyProof.Rows.entry_sorted (PyProof.Rows.args_sorted1 _) ?_
  unfold Builtin.«sorted»
  refine wpAny_bind (m := checkCount "sorted" 1 1 _) (wpAny_pure ?_)
  refine wpAny_bind (hcol _ _ fun s1 us vs ds I1 rv p hs => ?_)
  unfold srtD at hs
  split at hs
  · rename_i hok
    cases hs
    rw [Bool.and_eq_true, decide_eq_true_eq] at hok
    obtain ⟨h0, h1, h2⟩ := srt_al hok.1
    have hl := p.len
    have hlu := rv.length
    have hsz : us.length ≤ sizeLine := by rw [sl_eq]; omega
    refine wpAny_bind (wpAny_newList ?_ hsz)
    have hoL : (s1.heap.push (seqObj "list" us.toArray 0)).get? s1.heap.objs.size = some (seqObj "list" us.toArray 0) := Heap.get?_push_size _ rfl
    show wpAny _ _ _ _ _ { s1 with heap := s1.heap.push (seqObj "list" us.toArray 0) }
    have hk2 : ∀ b o, s1.heap.get? b = some o → (PySem.W.sortingHeap (s1.heap.push (seqObj "list" us.toArray 0)) s1.heap.objs.size us).get? b = some o := fun b o e => by
      have e2 := e
      exact PySem.W.sortingHeap_old (Nat.ne_of_lt (Heap.lt_size e2)) (Heap.get?_push_of_some _ e2)
    obtain ⟨e1, e2⟩ := each_zip I1 m hk2 p rv h0
    have em : (vs.zip ds).map (fun b => b.2.py) = ds.map D.py := by
      have := congrArg (List.map D.py) (zip_snd hl)
      rw [List.map_map] at this
      exact this
    have hal : PySem.W.AllAlike ((vs.zip ds).map fun b => b.2.py) := by rw [em]; exact all_alike h1
    have S : PySem.W.SortsAt X.prog X.w X.A.in1.in1 { s1 with heap := PySem.W.sortingHeap (s1.heap.push (seqObj "list" us.toArray 0)) s1.heap.objs.size us } _ us :=
      PySem.W.SortsAt.data (s := { s1 with heap := PySem.W.sortingHeap (s1.heap.push (seqObj "list" us.toArray 0)) s1.heap.objs.size us }) (PySem.W.each_map (R := fun v d => ∃ as, Reads (PySem.W.sortingHeap (s1.heap.push (seqObj "list" us.toArray 0)) s1.heap.objs.size us) v d as) (fun b : V × D => b.2.py) e2) hal (by rw [em]; exact h2) fun d hd => by
        rw [em] at hd
        obtain ⟨x, hx, rfl⟩ := List.mem_map.mp hd
        have hx1 := dep_le64 h0 x hx
        have hx2 := py_dep x (by omega)
        show X.A.units + 1 + 1 + x.py.depth < cLine
        omega
    refine wpAny_bind (wpAny_holding (wpAny_call_entry PyProof.Rows.slot_list_sort ⟨_, hoL, rfl⟩ PyProof.Rows.entry_list_sort
      (PySem.W.list_sort_vals (s := { s1 with heap := s1.heap.push (seqObj "list" us.toArray 0) }) hoL S hsz ⟨_, rfl, ?_⟩) (PyProof.Rows.args_list_sort _)))
    have out := PySem.W.sortVals_data (h' := PySem.W.sortingHeap (s1.heap.push (seqObj "list" us.toArray 0)) s1.heap.objs.size us) false e1 e2 hal
    obtain ⟨e', he'⟩ := PyProof.Rows.sortedHeap_at (vs := us) (out := (PySem.W.sortVals (PySem.W.dataKind (PySem.W.sortingHeap (s1.heap.push (seqObj "list" us.toArray 0)) s1.heap.objs.size us) ((vs.zip ds).map fun b => b.2.py)) false us us).toArray) hoL
    have hrv := vals_each out
    have hmem : ∀ b ∈ (vs.zip ds).mergeSort (PySem.W.dataLe false fun b : V × D => b.2.py), Rep X.kw F H b.1 b.2 [] := fun b hb => zip_rep p b ((List.mergeSort_perm ..).mem_iff.mp hb)
    have hD : ((vs.zip ds).mergeSort (PySem.W.dataLe false fun b : V × D => b.2.py)).map (·.2) = ds.mergeSort leD := by
      rw [PySem.W.sort_maps (s := leD) (fun b : V × D => b.2), zip_snd hl]
      intro a ha b hb
      rw [PySem.W.dataLe_eq]
      exact leD_py h0 h1 a.2 (List.of_mem_zip (a := a.1) (b := a.2) ha).2 b.2 (List.of_mem_zip (a := b.1) (b := b.2) hb).2
    have hR := reps_zip hmem
    rw [hD] at hR
    have hlen : (((vs.zip ds).mergeSort (PySem.W.dataLe false fun b : V × D => b.2.py)).map (·.1)).length ≤ sizeLine := by
      rw [List.length_map, (List.mergeSort_perm ..).length_eq, List.length_zip, sl_eq]
      omega
    refine wpAny_pure ⟨_, rfl, .ref s1.heap.objs.size, upd H s1.heap.objs.size (.lst _), I1.laid (t' := s1.toks) (fun b u e => ?_) (Nat.le_refl _)
      (show ObjOk X.prog X.w _ _ _ (.lst _) from ⟨hlen, _, e', hrv, he'⟩), rfl, q _ _ (I1.hok.fresh (Nat.le_refl _)) hR⟩
    have hb : b < s1.heap.objs.size := Heap.lt_size e
    rw [PyProof.Rows.sortedHeap_old (Nat.ne_of_lt hb) (by rw [size_push']; exact Nat.lt_succ_of_lt hb)]
    exact Heap.get?_push_of_some _ e
  · cases hs
theorem tx_out {cs : List (List Nat)} : ∀ (out : List Value), (∀ u ∈ out, ∃ k tk, u = .str (SX.S k) tk ∧ k ∈ cs) → ∃ ks : List (List Nat), Vals ((ks.map SX.S).map V.str) out ∧ (∀ k ∈ ks, k ∈ cs) ∧ ks.map SX.S = out.map (fun u => txK (0, u))
  | [], _ => ⟨[], .nil, fun _ z => (nomatch z), rfl⟩
  | u :: out, h => by
    obtain ⟨k, tk, rfl, m⟩ := h u List.mem_cons_self
    obtain ⟨ks, r, mm, e⟩ := tx_out out fun v hv => h v (List.mem_cons_of_mem _ hv)
    exact ⟨k :: ks, .cons ⟨tk, rfl⟩ r, fun x hx => (List.mem_cons.mp hx).elim (fun e => e ▸ m) (mm x), by rw [List.map_cons, List.map_cons, e]; rfl⟩
theorem tso_collect {a : Addr} {ls : List (List Nat)} {R : List Value → Shared → Prop} {E : Value → Shared → Prop} (hh : X.A.handled = none) (I : Inv X pins σ H s) (ha : H a = some (TSO X.w a ((ls.map SX.S).foldl insS []))) (has : ∀ y ∈ ls, asc y = true) (hl : ls.length + 1 < scanBound)
    (q : ∀ s1 us vs ds, Inv X pins σ H s1 → Vals vs us → Reps X.kw F H vs ds [] → srtD ds = some (((dst ls).map D.str).mergeSort leD) → R us s1) : wpAny (model X.prog X.w) X.A.in1 (collect (.ref a)) R E s := by
  obtain ⟨ob, en, ep, tb, g1, g2, g3, g4, g5, g6, g7, g8, g9, g10⟩ := tso_get I ha
  rw [dst_S] at g5 g7
  refine collect_set (A := X.A.in1) hh ⟨ob, g1, g2.1, g3⟩ g8 (by rw [tx_size g5]; exact g7) g9 g10 fun s' out hk hz hg ho hp => ?_
  have I' : Inv X pins σ H s' := I.call' (ch := []) ho (Un.kept hk) (I.hok.kept hk) (by rw [hg]; exact I.bare) (fun _ z => nomatch z)
  have hT : ∀ u ∈ out, ∃ k tk, u = .str (SX.S k) tk ∧ k ∈ dst ls := fun u hu => by
    obtain ⟨e, he, rfl⟩ := List.mem_map.mp (hp.mem_iff.mp hu)
    obtain ⟨k, tk, e1, _⟩ := g4 e he
    have : txK e ∈ (dst ls).map SX.S := g5.mem_iff.mp (List.mem_map.mpr ⟨e, he, rfl⟩)
    obtain ⟨k', hk', e2⟩ := List.mem_map.mp this
    refine ⟨k', tk, ?_, hk'⟩
    rw [e1, e2]
    unfold txK
    rw [e1]
  obtain ⟨ks, r, mm, e⟩ := tx_out out hT
  have pm : (ks.map SX.S).Perm ((dst ls).map SX.S) := by
    rw [e]
    refine (hp.map _).trans ?_
    rw [List.map_map]
    exact g5
  have pk : ks.Perm (dst ls) := by
    have := pm.map (fun s : Str => s.cps.toList)
    simpa [SX.S, Function.comp_def] using this
  refine q s' out _ (ks.map D.str) I' r (strs_reps ks fun x hx => has x (dst_mem.mp (mm x hx))) (srtD_strs pk ?_)
  have := dst_len ls
  have : scanBound ≤ SL := by decide
  omega
/-- sorted of a new set of texts -/
theorem cu_sset (hc : X.calm = true) (hu : X.A.units + 200 < cLine) : CallR X (.builtin "sorted") (r1 fun x H Q => ∃ a ls F, x = .ref a ∧ (∀ b o, F b = some o → H b = some o) ∧ H a = some (TSO X.w a ((ls.map SX.S).foldl insS [])) ∧ (∀ y ∈ ls, asc y = true) ∧ ls.length + 1 < scanBound ∧
    ∀ p zs, H p = none → Reps X.kw F H zs (((dst ls).map D.str).mergeSort leD) [] → Q (.ref p) (upd H p (.lst zs))) := by
  intro pins s σ H xs us Q I rs h
  obtain ⟨x, rfl, a, ls, F, rfl, m, ha, has, hl, q⟩ := h
  obtain ⟨u, rfl, ru⟩ := vals1 rs
  obtain rfl : u = .ref a := ru
  exact sorted_run2 I m hu (fun R E hR => tso_collect (I.ok.hd hc) I ha has hl hR) q
end
end Z

set_option Elab.async false
set_option linter.all false
set_option maxRecDepth 100000
set_option maxHeartbeats 2000000
/-! set(a list or tuple of texts). -/
namespace Z
open PySem PySem.Spec PyProof.Rows L2
section
variable {P : Program} {w : World} {A : Around} {R : Result → Shared → Prop} {I : Addr} {fp wr : List Addr} {G : Array GenState → Array GenState → Prop} {n : Nat} {Pv : Nat → Value → Prop} {St : Nat → Shared → Prop}
/-- the first i texts, each once -/
def upTo (val : Nat → Str) (i : Nat) : List Str := ((List.range i).map val).foldl insS []
theorem upTo_succ (val : Nat → Str) (i : Nat) : upTo val (i + 1) = insS (upTo val i) (val i) := by
  unfold upTo
  rw [List.range_succ, List.map_append, List.foldl_append]
  rfl
theorem upTo_len (val : Nat → Str) (i : Nat) : (upTo val i).length ≤ i := by
  have := insS_len ((List.range i).map val) []
  unfold upTo
  simpa using this
theorem tx_loop (W : WalksS P w A.in1 I fp wr G n Pv St) {D : Addr} (out : D ∉ fp) {val : Nat → Str} (isv : ∀ i v, Pv i v → ∃ t, v = .str (val i) t) (room : n + 1 < scanBound) :
    ∀ (m i : Nat) (s : Shared), i + m = n → St i s → TxSet w s.heap D (upTo val i) →
      (∀ s', Moved (D :: wr) G s s' → TxSet w s'.heap D (upTo val n) → R (.ok (.ret .none)) s') →
      codeAny (model P w) A (.builtin "set.update.loop" ⟨[.ref D, .ref I], []⟩) R s
  | 0, i, s, e, st, T, q => by
    obtain rfl : i = n := by omega
    refine codeAny_builtin PyProof.Rows.F.entry_set_update_loop ?_
    rw [Around.under_plainId PyProof.Rows.F.plain_set_update_loop _]
    show wpAny _ A.in1 (pyNext (.ref I) >>= _) _ _ s
    exact wpAny_bind (W.done s _ _ st fun s' mv => wpAny_pure (q s' (mv.mono fun b hb => List.mem_cons_of_mem _ hb) (T.stay fun o e => mv.heap D o (fun z => out (W.sub _ z)) e)))
  | m + 1, i, s, e, st, T, q => by
    refine codeAny_builtin PyProof.Rows.F.entry_set_update_loop ?_
    rw [Around.under_plainId PyProof.Rows.F.plain_set_update_loop _]
    show wpAny _ A.in1 (pyNext (.ref I) >>= _) _ _ s
    refine wpAny_bind (W.item i s _ _ (by omega) st fun v s' pv st' mv => ?_)
    obtain ⟨t, rfl⟩ := isv i v pv
    have T' : TxSet w s'.heap D (upTo val i) := T.stay fun o e => mv.heap D o (fun z => out (W.sub _ z)) e
    show wpAny _ A.in1 (holding [Value.str (val i) t] (setAdd D (.str (val i) t)) >>= _) _ _ s'
    refine wpAny_bind (wpAny_holding ?_)
    unfold setAdd
    refine wpAny_holding (wpAny_bind ((strKind P w).pyHash (beq_self_eq_true (val i)) ?_))
    refine tx_add (s := { s' with toks := s'.toks + 1 }) T' (by have := upTo_len val i; omega) fun h' b sb T2 => ?_
    rw [← upTo_succ] at T2
    refine wpAny_pure ⟨plainId_quiet PyProof.Rows.F.plain_set_update_loop _, tx_loop W out isv room m (i + 1) _ (by omega) (W.frame _ s' _ _ st' (Nat.le_succ _) fun c hc o e => ?_) T2 fun s2 mv2 T3 => ?_⟩
    · exact (sb.2 c fun z => out (z ▸ hc)).trans e
    · refine q s2 (Moved.trans W.gtrans ((mv.mono fun b hb => List.mem_cons_of_mem _ hb).then_heap (Nat.le_succ _) fun c o hc e => ?_) mv2) T3
      exact (sb.2 c fun z => hc (z ▸ List.mem_cons_self)).trans e
end
section
variable {P : Program} {w : World} {A : Around} {E : Value → Shared → Prop} {s : Shared}
theorem new_set_of (a : Value) {Q : Value → Shared → Prop} (h : Q (.ref s.heap.objs.size) { s with heap := s.heap.push (setObj0 w) }) :
    codeAny (model P w) A (.call (.builtin "set.__new__") ⟨[.type "set", a], []⟩) (wants Q E) s := by
  refine codeAny_of_tree ?_
  show wpAny _ A.in1 (checkBuiltinCall "set.__new__" ⟨[.type "set", a], []⟩ >>= fun _ => again (.builtin "set.__new__" ⟨[.type "set", a], []⟩)) _ _ s
  refine wpAny_bind (wpAny_of_eq (F.newCall_set_1 a) (wpAny_pure ⟨plainId_quiet F.plain_set_new _, codeAny_builtin F.entry_set_new ?_⟩))
  rw [Around.under_plainId F.plain_set_new _]
  unfold Builtin.«set.__new__» Builtin.Frozenset.newClass
  have below := sub_set_self
  obtain ⟨h0, g0, d0, t0, o0⟩ := s
  dsimp only
  wp_walk
  refine wpAny_askSetting (wpAny_pure ?_)
  dsimp only
  simp only [newObj]
  exact wpAny_bind (wpAny_alloc (wpAny_pure (wpAny_pure h)))
theorem sub_tuple_set : isSubtype (.type "tuple") (.type "set") = pure false := by rw [isSubtype_type]; kernel_rfl
theorem sub_tuple_frozenset : isSubtype (.type "tuple") (.type "frozenset") = pure false := by rw [isSubtype_type]; kernel_rfl
theorem call_set_list {l : Addr} {items : Array Value} {ls : List Str} {Q : Value → Shared → Prop} (hh : A.handled = none) (hl : s.heap.IsList l items) (hi : ∀ (i : Nat) (v : Value), items[i]? = some v → ∃ t, v = .str (ls.getD i Str.empty) t) (hz : items.size = ls.length) (room : ls.length + 1 < scanBound)
    (q : ∀ h' tk, TxSet w h' s.heap.objs.size (ls.foldl insS []) → (∀ b o, b < s.heap.objs.size → s.heap.get? b = some o → h'.get? b = some o) → Q (.ref s.heap.objs.size) { s with heap := h', toks := tk }) :
    wpAny (model P w) A (call (.type "set") [.ref l]) Q E s := by
  obtain ⟨c, tl, hmro⟩ := F.called_set.mro
  have made := F.called_set.made
  have sub := F.called_set.sub
  refine wpAny_call (codeAny_of_tree ?_)
  show wpAny _ _ (callAny (.type "set") _) _ _ _
  refine wpAny_pure ⟨Code.quiet_builtin _ (by decide +kernel), codeAny_builtin F.entry_type_call ?_⟩
  rw [Around.under_plain (weight_type_call_type "set" [.ref l] []) rfl]
  have c1 := F.called_set.notType
  have c2 := F.called_set.canCreate
  have c3 := F.typeCall_set_1 (.ref l)
  repeat (any_goals (first | assumption | wp_step))
  refine codeAny_mono (new_set_of (P := P) (.ref l) (E := E) (Q := fun obj s₁ => obj = .ref s.heap.objs.size ∧ s₁ = { s with heap := s.heap.push (setObj0 w) }) ⟨rfl, rfl⟩) fun r s₁ hr => ?_
  cases r with
  | error e => exact hr
  | ok fl =>
    cases fl with
    | ret obj =>
      obtain ⟨rfl, rfl⟩ := hr
      have hS : (s.heap.push (setObj0 w)).get? s.heap.objs.size = some (setObj0 w) := Heap.get?_push_size _ rfl
      have hT : Shared.TypeIs { s with heap := s.heap.push (setObj0 w) } (.ref s.heap.objs.size) "set" := ⟨_, hS, rfl⟩
      have hli := F.called_set.init.lookup
      have hbi := F.called_set.init.bind (.ref s.heap.objs.size)
      repeat (any_goals (first | assumption | wp_step))
      refine codeAny_mono (codeAny_call_builtin (R := wants (fun r s₂ => r = .none ∧ ∃ h' tk, s₂ = { s with heap := h', toks := tk } ∧ TxSet w h' s.heap.objs.size (ls.foldl insS []) ∧
          (∀ b o, b < s.heap.objs.size → s.heap.get? b = some o → h'.get? b = some o)) E) F.called_set.init.plain F.entry_set_init (check_set_init_1 hT ?_)) fun r₂ s₂ hr₂ => ?_
      · obtain ⟨ol, hol, hcl, nl, hdl⟩ := hl
        obtain ⟨ocls, odict, odata, oslots⟩ := ol
        simp only at hcl hdl
        subst hcl; subst hdl
        have there : (s.heap.push (setObj0 w)).get? l = some { cls := .type "list", dict := odict, data := .seq items nl, slots := oslots } := Heap.get?_push_of_some _ hol
        have there1 : (s.heap.push (setObj0 w)).IsList l items := ⟨_, there, rfl, nl, rfl⟩
        have n1 := F.sub_list_set
        have n2 := F.sub_list_frozenset
        have n3 : (Value.type "list" == Value.type "dict") = false := by decide
        unfold Builtin.«set.__init__» noKeywords Builtin.Frozenset.updateFrom
        generalize hPI : pyIter = PI
        wp_walk
        subst hPI
        refine wpAny_pyIter_list there1 ?_
        refine wpAny_bind (wpAny_runValue ?_)
        have old : l < s.heap.objs.size := Heap.lt_size hol
        have size1 : (s.heap.push (setObj0 w)).objs.size = s.heap.objs.size + 1 := size_push' _ _
        have hh3 : A.in1.in1.in1.handled = none := by simp [hh]
        have apart : l ≠ (s.heap.push (setObj0 w)).objs.size := by rw [size1]; exact Nat.ne_of_lt (Nat.lt_succ_of_lt old)
        have out : s.heap.objs.size ∉ [(s.heap.push (setObj0 w)).objs.size, l] := by
          rw [size1]
          intro z
          rcases List.mem_cons.mp z with z | z
          · exact absurd z (Nat.ne_of_lt (Nat.lt_succ_self _))
          · exact absurd (List.mem_singleton.mp z) (Nat.ne_of_gt old)
        have each : ∀ (i : Nat) (v : Value), items[i]? = some v → ∃ t, v = .str ((fun i => ls.getD i Str.empty) i) t := hi
        have all : upTo (fun i => ls.getD i Str.empty) items.size = ls.foldl insS [] := by
          unfold upTo
          congr 1
          rw [hz]
          refine List.ext_getElem (by simp) fun i h1 h2 => ?_
          simp at h1
          simp [h1]
        refine tx_loop (P := P) (w := w) ((Walks.list hh3 _ l apart items).toS) out each (by rw [hz]; exact room) items.size 0 _ (by omega) ⟨⟨_, Heap.get?_push_size _ rfl, rfl, rfl⟩, (there1.push _)⟩ ((tx_fresh w).stay fun o e => Heap.get?_push_of_some _ e) fun s' mv T => ?_
        rw [all] at T
        obtain ⟨h', g', d', tk', os'⟩ := s'
        have eg : g' = s.gens := mv.gens
        have ed : d' = s.drawn := mv.drawn
        have eo : os' = s.os := mv.os
        subst eg ed eo
        show wpAny _ _ _ _ _ _
        refine wpAny_pure ?_
        show wpAny _ _ (ret Value.none) _ _ _
        refine wpAny_pure ⟨rfl, h', tk', rfl, T, fun b o hb e => mv.heap b o (fun z => ?_) (Heap.get?_push_of_some _ (Heap.get?_push_of_some _ e))⟩
        rcases List.mem_cons.mp z with z | z
        · exact absurd z (Nat.ne_of_lt hb)
        · exact absurd (List.mem_singleton.mp z) (by rw [size1]; exact Nat.ne_of_lt (Nat.lt_succ_of_lt hb))
      · cases r₂ with
        | error e => exact hr₂
        | ok fl₂ =>
          cases fl₂ with
          | ret r =>
            obtain ⟨rfl, h', tk, rfl, T, keep⟩ := hr₂
            repeat (any_goals (first | assumption | wp_step))
            exact q _ _ T keep
          | _ => exact hr₂.elim
    | _ => exact hr.elim
theorem call_set_tuple {l : Addr} {items : Array Value} {ls : List Str} {Q : Value → Shared → Prop} (hh : A.handled = none) (hl : s.heap.IsTuple l items) (hi : ∀ (i : Nat) (v : Value), items[i]? = some v → ∃ t, v = .str (ls.getD i Str.empty) t) (hz : items.size = ls.length) (room : ls.length + 1 < scanBound)
    (q : ∀ h' tk, TxSet w h' s.heap.objs.size (ls.foldl insS []) → (∀ b o, b < s.heap.objs.size → s.heap.get? b = some o → h'.get? b = some o) → Q (.ref s.heap.objs.size) { s with heap := h', toks := tk }) :
    wpAny (model P w) A (call (.type "set") [.ref l]) Q E s := by
  obtain ⟨c, tl, hmro⟩ := F.called_set.mro
  have made := F.called_set.made
  have sub := F.called_set.sub
  refine wpAny_call (codeAny_of_tree ?_)
  show wpAny _ _ (callAny (.type "set") _) _ _ _
  refine wpAny_pure ⟨Code.quiet_builtin _ (by decide +kernel), codeAny_builtin F.entry_type_call ?_⟩
  rw [Around.under_plain (weight_type_call_type "set" [.ref l] []) rfl]
  have c1 := F.called_set.notType
  have c2 := F.called_set.canCreate
  have c3 := F.typeCall_set_1 (.ref l)
  repeat (any_goals (first | assumption | wp_step))
  refine codeAny_mono (new_set_of (P := P) (.ref l) (E := E) (Q := fun obj s₁ => obj = .ref s.heap.objs.size ∧ s₁ = { s with heap := s.heap.push (setObj0 w) }) ⟨rfl, rfl⟩) fun r s₁ hr => ?_
  cases r with
  | error e => exact hr
  | ok fl =>
    cases fl with
    | ret obj =>
      obtain ⟨rfl, rfl⟩ := hr
      have hS : (s.heap.push (setObj0 w)).get? s.heap.objs.size = some (setObj0 w) := Heap.get?_push_size _ rfl
      have hT : Shared.TypeIs { s with heap := s.heap.push (setObj0 w) } (.ref s.heap.objs.size) "set" := ⟨_, hS, rfl⟩
      have hli := F.called_set.init.lookup
      have hbi := F.called_set.init.bind (.ref s.heap.objs.size)
      repeat (any_goals (first | assumption | wp_step))
      refine codeAny_mono (codeAny_call_builtin (R := wants (fun r s₂ => r = .none ∧ ∃ h' tk, s₂ = { s with heap := h', toks := tk } ∧ TxSet w h' s.heap.objs.size (ls.foldl insS []) ∧
          (∀ b o, b < s.heap.objs.size → s.heap.get? b = some o → h'.get? b = some o)) E) F.called_set.init.plain F.entry_set_init (check_set_init_1 hT ?_)) fun r₂ s₂ hr₂ => ?_
      · obtain ⟨ol, hol, hcl, nl, hdl⟩ := hl
        obtain ⟨ocls, odict, odata, oslots⟩ := ol
        simp only at hcl hdl
        subst hcl; subst hdl
        have there : (s.heap.push (setObj0 w)).get? l = some { cls := .type "tuple", dict := odict, data := .seq items nl, slots := oslots } := Heap.get?_push_of_some _ hol
        have there1 : (s.heap.push (setObj0 w)).IsTuple l items := ⟨_, there, rfl, nl, rfl⟩
        have n1 := sub_tuple_set
        have n2 := sub_tuple_frozenset
        have n3 : (Value.type "tuple" == Value.type "dict") = false := by decide
        unfold Builtin.«set.__init__» noKeywords Builtin.Frozenset.updateFrom
        generalize hPI : pyIter = PI
        wp_walk
        subst hPI
        refine wpAny_pyIter_tuple there1 ?_
        refine wpAny_bind (wpAny_runValue ?_)
        have old : l < s.heap.objs.size := Heap.lt_size hol
        have size1 : (s.heap.push (setObj0 w)).objs.size = s.heap.objs.size + 1 := size_push' _ _
        have hh3 : A.in1.in1.in1.handled = none := by simp [hh]
        have apart : l ≠ (s.heap.push (setObj0 w)).objs.size := by rw [size1]; exact Nat.ne_of_lt (Nat.lt_succ_of_lt old)
        have out : s.heap.objs.size ∉ [(s.heap.push (setObj0 w)).objs.size, l] := by
          rw [size1]
          intro z
          rcases List.mem_cons.mp z with z | z
          · exact absurd z (Nat.ne_of_lt (Nat.lt_succ_self _))
          · exact absurd (List.mem_singleton.mp z) (Nat.ne_of_gt old)
        have each : ∀ (i : Nat) (v : Value), items[i]? = some v → ∃ t, v = .str ((fun i => ls.getD i Str.empty) i) t := hi
        have all : upTo (fun i => ls.getD i Str.empty) items.size = ls.foldl insS [] := by
          unfold upTo
          congr 1
          rw [hz]
          refine List.ext_getElem (by simp) fun i h1 h2 => ?_
          simp at h1
          simp [h1]
        refine tx_loop (P := P) (w := w) ((Walks.tuple hh3 _ l apart items).toS) out each (by rw [hz]; exact room) items.size 0 _ (by omega) ⟨⟨_, Heap.get?_push_size _ rfl, rfl, rfl⟩, (there1.push _)⟩ ((tx_fresh w).stay fun o e => Heap.get?_push_of_some _ e) fun s' mv T => ?_
        rw [all] at T
        obtain ⟨h', g', d', tk', os'⟩ := s'
        have eg : g' = s.gens := mv.gens
        have ed : d' = s.drawn := mv.drawn
        have eo : os' = s.os := mv.os
        subst eg ed eo
        show wpAny _ _ _ _ _ _
        refine wpAny_pure ?_
        show wpAny _ _ (ret Value.none) _ _ _
        refine wpAny_pure ⟨rfl, h', tk', rfl, T, fun b o hb e => mv.heap b o (fun z => ?_) (Heap.get?_push_of_some _ (Heap.get?_push_of_some _ e))⟩
        rcases List.mem_cons.mp z with z | z
        · exact absurd z (Nat.ne_of_lt hb)
        · exact absurd (List.mem_singleton.mp z) (by rw [size1]; exact Nat.ne_of_lt (Nat.lt_succ_of_lt hb))
      · cases r₂ with
        | error e => exact hr₂
        | ok fl₂ =>
          cases fl₂ with
          | ret r =>
            obtain ⟨rfl, h', tk, rfl, T, keep⟩ := hr₂
            repeat (any_goals (first | assumption | wp_step))
            exact q _ _ T keep
          | _ => exact hr₂.elim
    | _ => exact hr.elim
end
end Z

set_option Elab.async false
set_option linter.all false
set_option maxRecDepth 100000
set_option maxHeartbeats 2000000
/-! sorted and len of sets of texts, as expressions. -/
namespace Z
open PySem PySem.Spec PyProof.Rows L2
section
variable {X : Cx} {σ : L2.St} {H : Hp}
/-- a set of texts is handed on -/
def rTS (w : World) (k : Addr → List (List Nat) → Hp → VK → Prop) : V → Hp → VK → Prop := fun x H Q => ∃ a ls, x = .ref a ∧ H a = some (TSO w a ((ls.map SX.S).foldl insS [])) ∧ (∀ y ∈ ls, asc y = true) ∧ ls.length + 1 < scanBound ∧ k a ls H Q
def kSort (K : Kw) : Addr → List (List Nat) → Hp → VK → Prop := fun _ ls H Q => ∃ F, (∀ b o, F b = some o → H b = some o) ∧ ∀ p zs, H p = none → Reps K F H zs (((dst ls).map D.str).mergeSort leD) [] → Q (.ref p) (upd H p (.lst zs))
def kLen : Addr → List (List Nat) → Hp → VK → Prop := fun _ ls H Q => Q (.int (dst ls).length) H
theorem cu_tsort (hc : X.calm = true) (hu : X.A.units + 200 < cLine) : CallR X (.builtin "sorted") (r1 (rTS X.w (kSort X.kw))) := by
  intro pins s σ H xs us Q I rs h
  obtain ⟨x, rfl, a, ls, rfl, ha, has, hl, F, m, q⟩ := h
  exact cu_sset hc hu pins s σ H _ us Q I rs ⟨.ref a, rfl, a, ls, F, rfl, m, ha, has, hl, q⟩
theorem cu_tlen : CallR X (.builtin "len") (r1 (rTS X.w kLen)) := by
  intro pins s σ H xs us Q I rs h
  obtain ⟨x, rfl, a, ls, rfl, ha, has, hl, q⟩ := h
  obtain ⟨u, rfl, ru⟩ := vals1 rs
  obtain rfl : u = .ref a := ru
  obtain ⟨ob, en, ep, tb, g1, g2, g3, g4, g5, g6, g7, g8, g9, g10⟩ := tso_get I ha
  rw [dst_S] at g5
  have z : en.size = (dst ls).length := by have := tx_size g5; rwa [List.length_map] at this
  have b := dst_len ls
  have b2 : scanBound = 4096 := rfl
  refine PySem.call_len_set g1 g2 g3 g8 (by rw [z]; omega) ⟨.int (dst ls).length, H, I.tok _, ⟨_, by rw [z]⟩, q⟩
/-- what comes of the call -/
theorem ts_sort {K : Kw} {F F' H' : Hp} {s s' : Env} {fps fps' : Fps} {mv : List Nat} {Q : VK} {a : Addr} {ls : List (List Nat)} (R' : Rel K F' H' σ s' fps') (st : Stp mv F H s fps F' H' s' fps')
    (h : ∀ v G F2 fps2 fp, Rel K F2 G σ s' fps2 → Stp mv F H s fps F2 G s' fps2 → Res K mv [] H fps F2 G fps2 v (.lst true (((dst ls).map D.str).mergeSort leD)) fp → Q v G) : kSort K a ls H' Q :=
  ⟨F', R'.sub, fun p zs hp hr => give_lst (vf := false) (fp1 := []) R'.sub hp hr (give_res (x := V.non) (d1 := D.non) (vwa := []) R' st ⟨.non, fun a z => nomatch z⟩ h)⟩
theorem ts_len {K : Kw} {F F' H' : Hp} {s s' : Env} {fps fps' : Fps} {mv : List Nat} {Q : VK} {a : Addr} {ls : List (List Nat)} (R' : Rel K F' H' σ s' fps') (st : Stp mv F H s fps F' H' s' fps')
    (h : ∀ v G F2 fps2 fp, Rel K F2 G σ s' fps2 → Stp mv F H s fps F2 G s' fps2 → Res K mv [] H fps F2 G fps2 v (.int (dst ls).length) fp → Q v G) : kLen a ls H' Q :=
  give_int (vf := false) (fp1 := []) R'.sub (give_res (x := V.non) (d1 := D.non) (vwa := []) R' st ⟨.non, fun a z => nomatch z⟩ h)
theorem strsOf_map : ∀ {xs : List D} {ls : List (List Nat)}, strsOf xs = some ls → xs = ls.map D.str
  | [], ls, h => by
    simp only [strsOf, Option.some.injEq] at h
    subst h; rfl
  | x :: xs, ls, h => by
    cases x <;> simp only [strsOf, reduceCtorEq, Option.map_eq_some_iff] at h
    obtain ⟨r, e, rfl⟩ := h
    rw [strsOf_map e]; rfl
theorem setD_map {xs : List D} {ks : List (List Nat)} (h : setD xs = some ks) : ∃ ls, xs = ls.map D.str ∧ ls.length + 1 < scanBound ∧ ks = dst ls := by
  unfold setD at h
  rw [Option.bind_eq_some_iff] at h
  obtain ⟨ls, e, h⟩ := h
  have b2 : scanBound = 4096 := rfl
  by_cases c : ls.length ≤ 4000
  · rw [if_pos c] at h
    exact ⟨ls, strsOf_map e, by omega, by cases h; rfl⟩
  · rw [if_neg c] at h; cases h
theorem srtD_dst {ls : List (List Nat)} {ys : List D} (h : srtD ((dst ls).map D.str) = some ys) : ys = ((dst ls).map D.str).mergeSort leD := by
  unfold srtD at h
  split at h
  · cases h; rfl
  · cases h
/-- the value of u at a set of the texts xs -/
def setU (u : U1) (ls : List (List Nat)) : Option D := match u with
  | .sset => some (.lst true (((dst ls).map D.str).mergeSort leD))
  | .lset => some (.int (dst ls).length)
  | _ => none
def isSU : U1 → Bool
  | .sset => true
  | .lset => true
  | _ => false
theorem setU_of {u : U1} {o : Bool} {xs : List D} {d : D} (hu : isSU u = true) (h : un1 u (.lst o xs) = some d ∨ un1 u (.tup xs) = some d) : ∃ ls, xs = ls.map D.str ∧ ls.length + 1 < scanBound ∧ setU u ls = some d := by
  cases u <;> simp only [isSU, Bool.false_eq_true] at hu
  · have h : (setD xs).bind (fun ks => (srtD (ks.map D.str)).map (D.lst true)) = some d := by
      rcases h with h | h <;> (simp only [un1] at h; exact h)
    simp only [Option.bind_eq_some_iff, Option.map_eq_some_iff] at h
    obtain ⟨ks, e1, ys, e2, rfl⟩ := h
    obtain ⟨ls, q1, q2, rfl⟩ := setD_map e1
    exact ⟨ls, q1, q2, by rw [srtD_dst e2]; rfl⟩
  · have h : (setD xs).map (fun ks => D.int ks.length) = some d := by
      rcases h with h | h <;> (simp only [un1] at h; exact h)
    simp only [Option.map_eq_some_iff] at h
    obtain ⟨ks, e1, rfl⟩ := h
    obtain ⟨ls, q1, q2, rfl⟩ := setD_map e1
    exact ⟨ls, q1, q2, rfl⟩
def kU (K : Kw) (u : U1) : Addr → List (List Nat) → Hp → VK → Prop := match u with
  | .sset => kSort K
  | .lset => kLen
  | _ => fun _ _ _ _ => False
theorem ts_use {K : Kw} {F F' H' : Hp} {s s' : Env} {fps fps' : Fps} {mv : List Nat} {Q : VK} {a : Addr} {ls : List (List Nat)} {u : U1} {d : D} (hd : setU u ls = some d) (R' : Rel K F' H' σ s' fps') (st : Stp mv F H s fps F' H' s' fps')
    (h : ∀ v G F2 fps2 fp, Rel K F2 G σ s' fps2 → Stp mv F H s fps F2 G s' fps2 → Res K mv [] H fps F2 G fps2 v d fp → Q v G) : kU K u a ls H' Q := by
  cases u <;> simp only [setU, reduceCtorEq, Option.some.injEq] at hd
  · subst hd; exact ts_sort (a := a) R' st h
  · subst hd; exact ts_len (a := a) R' st h
/-! ### of a comprehension -/
theorem fComp_lst {tg : T} {own : List Nat} {fs : Env → R (List D)} {fc fe : Env → R D} {s s' : Env} {d : D} (h : fComp tg own fs fc fe s = .ok d s') : ∃ ys, d = .lst true ys := by
  unfold fComp at h
  cases e : fs s with
  | exc x s1 => rw [e] at h; cases h
  | bad => rw [e] at h; cases h
  | ok xs s1 =>
    rw [e] at h
    simp only [bind_ok] at h
    by_cases hSL : SL < xs.length
    · rw [if_pos hSL] at h; cases h
    · rw [if_neg hSL] at h
      cases e2 : compL (fBody tg own fc fe) xs s1 with
      | exc x s1 => rw [e2] at h; cases h
      | bad => rw [e2] at h; cases h
      | ok ys s2 =>
        rw [e2] at h
        simp only [bind_ok] at h
        cases h
        exact ⟨ys, rfl⟩
theorem tE_sc {K : Kw} {u : U1} {mvs vws mvc mve : List Nat} {fs : Env → R (List D)} {fc fe : Env → R D} {tg : T} {own : List Nat} (hu : isSU u = true) (hd : disj vws (minus (tg.sl ++ mvc ++ mve) own) = true) (ho : ∀ i ∈ tg.sl, i ∈ own) {Q : VK}
    (h : tE K (mvs ++ minus (tg.sl ++ mvc ++ mve) own) [] (fun s => (fComp tg own fs fc fe s).bind fun x s => R.of (un1 u x) s) σ H Q) :
    tCB (r1 (rTS K.w (kU K u))) (tCons (tSs K.w (tR K mvs vws fs) (gT K tg) (tT K mvc fc) (tE K mve [] fe) own) tNil) σ H Q := by
  obtain ⟨F, s, fps, R, h⟩ := h
  try dsimp only at h
  refine tE_ss (Q := fun v H' => r1 (rTS K.w (kU K u)) [v] H' Q) hd ho ⟨F, s, fps, R, ?_⟩
  cases e : fComp tg own fs fc fe s with
  | exc x s' => rw [e] at h; exact h
  | bad => rw [e] at h; exact h
  | ok d s' =>
    rw [e] at h
    simp only [bind_ok] at h
    obtain ⟨ys, rfl⟩ := fComp_lst e
    cases e2 : un1 u (.lst true ys) with
    | none => rw [e2] at h; exact h.elim
    | some z =>
      rw [e2, of_some] at h
      obtain ⟨ls, rfl, room, e3⟩ := setU_of (o := true) hu (.inl e2)
      exact ⟨ls, rfl, room, fun D H' F' fps' R' st hD hF hN hH has => ⟨.ref D, rfl, D, ls, rfl, hD, has, room, ts_use e3 R' st h⟩⟩
/-! ### of set(xs) -/
theorem vals_strs : ∀ {ks : List Str} {us : List Value}, Vals (ks.map V.str) us → ∀ (i : Nat) (v : Value), us[i]? = some v → ∃ t, v = .str (ks.getD i Str.empty) t
  | [], _, .nil, i, v, h => by simp at h
  | k :: ks, _, .cons r rs, 0, v, h => by
    obtain ⟨t, rfl⟩ := r
    exact ⟨t, by simpa using h.symm⟩
  | k :: ks, _, .cons r rs, i + 1, v, h => by
    obtain ⟨t, e⟩ := vals_strs rs i v (by simpa using h)
    exact ⟨t, by simpa using e⟩
def rMk (K : Kw) : V → Hp → VK → Prop := fun x H Q => ∃ F d fp o, ∃ ls : List (List Nat), (∀ a o, F a = some o → H a = some o) ∧ Rep K F H x d fp ∧ (d = .lst o (ls.map D.str) ∨ d = .tup (ls.map D.str)) ∧ ls.length + 1 < scanBound ∧
  ∀ D, H D = none → (∀ y ∈ ls, asc y = true) → Q (.ref D) (upd H D (TSO K.w D ((ls.map SX.S).foldl insS [])))
theorem cu_set (hc : X.calm = true) : CallR X (.type "set") (r1 (rMk X.kw)) := by
  intro pins s σ H xs us Q I rs h
  obtain ⟨x, rfl, F, d, fp, o, ls, m, r, hd, room, q⟩ := h
  obtain ⟨u, rfl, ru⟩ := vals1 rs
  have fin : ∀ (hasc : ∀ y ∈ ls, asc y = true) h' tk, TxSet X.w h' s.heap.objs.size ((ls.map SX.S).foldl insS []) → (∀ b o, b < s.heap.objs.size → s.heap.get? b = some o → h'.get? b = some o) → EP X pins σ Q (.ref s.heap.objs.size) { s with heap := h', toks := tk } := fun hasc h' tk T keep =>
    ⟨.ref s.heap.objs.size, _, I.laid (t' := tk) (fun b u e => keep b u (Heap.lt_size e) e) (Nat.le_refl _) (tso_new T), rfl, q _ (I.hok.fresh (Nat.le_refl _)) hasc⟩
  rcases hd with rfl | rfl
  · obtain ⟨a, vs, f0, rfl, t1, p1, hf⟩ := rep_lst m r
    obtain ⟨rfl, _, hasc⟩ := reps_strs p1
    obtain rfl : u = .ref a := ru
    obtain ⟨its, rv, kt, hz⟩ := I.list t1
    have hl := rv.length
    simp only [List.length_map] at hl
    exact call_set_list (I.ok.hd hc) kt.isList (ls := ls.map SX.S) (fun i v e => vals_strs rv i v (by simpa using e)) (by simpa using hl.symm) (by simpa using room) (fin hasc)
  · obtain ⟨a, vs, rfl, t0, t1, p1⟩ := rep_tup m r
    obtain ⟨rfl, _, hasc⟩ := reps_strs p1
    obtain rfl : u = .ref a := ru
    obtain ⟨its, rv, kt, hz⟩ := I.tuple t1
    have hl := rv.length
    simp only [List.length_map] at hl
    exact call_set_tuple (I.ok.hd hc) kt (ls := ls.map SX.S) (fun i v e => vals_strs rv i v (by simpa using e)) (by simpa using hl.symm) (by simpa using room) (fin hasc)
theorem tE_sm {K : Kw} {u : U1} {mv vw : List Nat} {f : Env → R D} (hu : isSU u = true) {Q : VK} (h : tE K mv [] (fun s => (f s).bind fun x s => R.of (un1 u x) s) σ H Q) :
    tCB (r1 (rTS K.w (kU K u))) (tCons (tCB (r1 (rMk K)) (tCons (tE K mv vw f) tNil)) tNil) σ H Q := by
  obtain ⟨F, s, fps, R, h⟩ := h
  try dsimp only at h
  refine ⟨F, s, fps, R, ?_⟩
  cases e : f s with
  | exc x s' => rw [e] at h; exact h
  | bad => rw [e] at h; exact h
  | ok d s' =>
    rw [e] at h
    simp only [bind_ok] at h
    cases e2 : un1 u d with
    | none => rw [e2] at h; exact h.elim
    | some z =>
      rw [e2, of_some] at h
      have key : ∃ o xs, (d = .lst o xs ∨ d = .tup xs) := by
        cases u <;> simp only [isSU, Bool.false_eq_true] at hu <;> cases d <;> first | (simp only [un1, reduceCtorEq] at e2; done) | exact ⟨_, _, .inl rfl⟩ | exact ⟨true, _, .inr rfl⟩
      obtain ⟨o, xs, hd⟩ := key
      obtain ⟨ls, rfl, room, e3⟩ := setU_of (o := o) (xs := xs) hu (by rcases hd with rfl | rfl; exact .inl e2; exact .inr e2)
      refine fun v H' F' fps' fp R' st rs => ⟨v, rfl, F', d, fp, o, ls, R'.sub, rs.rep, hd, room, fun D hD has => ⟨.ref D, rfl, D, ls, rfl, upd_same, has, room, ?_⟩⟩
      have x := Ext.own (o := TSO K.w D ((ls.map SX.S).foldl insS [])) R'.sub hD
      have st2 := st.trans (x.stp (mv := []) (s := s') (fps := fps'))
      rw [List.append_nil] at st2
      exact ts_use e3 (R'.ext x) st2 h
end
end Z

set_option Elab.async false
set_option linter.all false
set_option maxRecDepth 100000
namespace Z
open PySem PySem.Spec PyProof.Rows L2

/-! ### which slots an expression may change, which its value may lie in -/
mutual
def mvE : E → List Nat
  | .c _ => []
  | .v _ => []
  | .fr i => [i]
  | .mov i => [i]
  | .val e => mvE e
  | .fz e => mvE e
  | .un _ a => mvE a
  | .op _ _ a b => mvE a ++ mvE b
  | .slc _ _ _ a l h => mvE a ++ mvE l ++ mvE h
  | .and a b => mvE a ++ mvE b
  | .or a b => mvE a ++ mvE b
  | .ite c a b => mvE c ++ (mvE a ++ mvE b)
  | .chain _ _ a b c => mvE a ++ mvE b ++ mvE c
  | .tup es => mvL es
  | .lst es => mvL es
  | .dnew => []
  | .orv a b => mvE a ++ mvE b
  | .op3 _ a b c => mvE a ++ mvE b ++ mvE c
  | .call _ as es => mvL es ++ as.filterMap id
  | .mu _ i es => mvL es ++ [i]
  | .comp elt tg src cnd own => mvR src ++ minus (tg.sl ++ mvE cnd ++ mvE elt) own
def mvL : EL → List Nat
  | .nil => []
  | .cons e es => mvE e ++ mvL es
def mvR : Sr → List Nat
  | .of e => mvE e
  | .rng a => mvE a
  | .rng3 es => mvL es
  | .zip a b => mvE a ++ mvE b
  | .enum a => mvE a
end
def vwE : E → List Nat
  | .v i => [i]
  | .op .ix _ a _ => vwE a
  | .and _ b => vwE b
  | .or _ b => vwE b
  | .ite _ a b => vwE a ++ vwE b
  | .orv a b => vwE a ++ vwE b
  | _ => []
def vwR : Sr → List Nat
  | .of e => vwE e
  | .rng a => vwE a
  | .zip a b => vwE a ++ vwE b
  | .enum a => vwE a
  | .rng3 _ => []
def mvS : S → List Nat
  | .skip => []
  | .bad => []
  | .sst i _ _ lo hi e => mvE e ++ mvE lo ++ mvE hi ++ [i]
  | .asg i e => mvE e ++ [i]
  | .unp is e => mvE e ++ is
  | .st i k e => mvE e ++ mvE k ++ [i]
  | .aug i _ e => mvE e ++ [i]
  | .ex e => mvE e
  | .ret e => mvE e
  | .seq a b => mvS a ++ mvS b
  | .ite c a b => mvE c ++ (mvS a ++ mvS b)
  | .wh c b => mvE c ++ mvS b
  | .for tg src b => mvR src ++ (mvS b ++ tg.sl)
  | .brk => []
  | .cnt => []
def asS : S → List Nat
  | .skip => []
  | .bad => []
  | .sst _ _ _ _ _ _ => []
  | .asg i _ => [i]
  | .unp is _ => is
  | .st _ _ _ => []
  | .aug i _ _ => [i]
  | .ex _ => []
  | .ret _ => []
  | .seq a b => asS a ++ asS b
  | .ite _ a b => asS a ++ asS b
  | .wh _ b => asS b
  | .for tg _ b => asS b ++ tg.sl
  | .brk => []
  | .cnt => []

/-! ### from the text -/
structure Gm where
  consts : List (Str × D)
  funs : List (Str × Nat × List Bool)
  kws : List (Str × Nat × Str × Str)
def okN (x : Str) : Bool := !(x == ("__debug__" : Str)) && !(x == ("__classdict__" : Str))
def isVis (sc : Scope) (x : Str) : Bool := match sc.names.lookup x with
  | some .local => true
  | some .cell => true
  | some .free => true
  | _ => false
def isGl (sc : Scope) (x : Str) : Bool := match sc.names.lookup x with
  | some .globalImplicit => true
  | _ => false
def slot (N : List Str) (sc : Scope) (x : Str) : Option Nat := if isVis sc x && okN x then N.idxOf? x else none
def valI (e : E) : E := if (vwE e).isEmpty then e else .val e
def valF : E → E
  | .v i => .fr i
  | e => valI e
def wrapF : E → E
  | .lst es => .fz (.lst es)
  | .comp a b c d e => .fz (.comp a b c d e)
  | .call f as es => .fz (.call f as es)
  | e => e
def cmpOf : CmpOp → Option O2
  | .Eq => some .eq
  | .NotEq => some .ne
  | .Lt => some .lt
  | .LtE => some .le
  | .Gt => some .gt
  | .GtE => some .ge
  | .In => some .isin
  | .NotIn => some .notin
  | .Is => some .is
  | .IsNot => some .isnot

def binOf : Operator → Option O2
  | .Add => some .add
  | .Sub => some .sub
  | .Mult => some .mul
  | .FloorDiv => some .fdiv
  | .Mod => some .mod
  | .Pow => some .pow
  | _ => none
def fnU (x : Str) : Option U1 := if x = "len" then some .len else if x = "all" then some .all else if x = "any" then some .any else if x = "sorted" then some .sorted else none
def tyU (x : Str) : Option U1 := if x = "list" then some .list else if x = "tuple" then some .tuple else if x = "int" then some .int else if x = "dict" then some .dict else none
def fn2 (x : Str) : Option O2 := if x = "min" then some .min else if x = "max" then some .max else none
def isN (x : Str) : Option U1 := if x = "str" then some .isStr else if x = "tuple" then some .isTup else if x = "list" then some .isLst else if x = "bool" then some .isBool else if x = "int" then some .isInt else none
def isStar : Expr → Bool
  | .Starred .. => true
  | _ => false
/-- [::-1] -/
def revS : Option Expr → Option Expr → Expr → Bool
  | none, none, .UnaryOp .USub (.Constant (.int 1) _ _) _ => true
  | _, _, _ => false
def isSlice : Expr → Bool
  | .Slice .. => true
  | _ => false
def isComp : Expr → Bool
  | .ListComp .. => true
  | .SetComp .. => true
  | .DictComp .. => true
  | _ => false
def isCall : Expr → Bool
  | .Call (.Name ..) [] [] _ => true
  | _ => false
def isSet : Expr → Bool
  | .Set .. => true
  | _ => false
def isTupE : Expr → Bool
  | .Tuple .. => true
  | _ => false
def opK (o : O2) (a b : E) : E := .op o (!disj (vwE a) (mvE b)) a b
def ownOf (N : List Str) (scope : Scope) : List (Str × Nat) := scope.names.filterMap fun p => match p.2 with
  | .local => (N.idxOf? p.1).map fun i => (p.1, i)
  | .cell => (N.idxOf? p.1).map fun i => (p.1, i)
  | _ => none
structure TR where
  E : Scope → Expr → Option E
  T : Scope → Expr → Option Z.E
section
variable (Γ : Gm) (N : List Str)
def trV (r : TR) (sc : Scope) (e : Expr) : Option E := (r.E sc e).map valF
def trL (r : TR) (sc : Scope) : List Expr → Option EL
  | [] => some .nil
  | e :: es => if isStar e then none else (trV r sc e).bind fun e' => (trL r sc es).map fun es' => .cons e' es'
/-- what goes into a display is frozen -/
def wrapU (e : E) : E := match e with
  | .op .add _ _ (.fz (.lst _)) => .fz e
  | .op .mul _ (.fz (.lst _)) _ => .fz e
  | .un .items _ => .fz e
  | .lst _ => .fz e
  | .comp _ _ _ _ _ => .fz e
  | .un .list _ => .fz e
  | .un .sorted _ => .fz e
  | .un .sset _ => .fz e
  | .un .rev _ => .fz e
  | e => e
def wrapS (e : E) : E := match e with
  | .un .items _ => .fz e
  | .lst _ => .fz e
  | .comp _ _ _ _ _ => .fz e
  | .call _ _ _ => .fz e
  | .un .list _ => .fz e
  | .un .sorted _ => .fz e
  | .un .sset _ => .fz e
  | .un .rev _ => .fz e
  | .slc _ _ _ _ _ _ => .fz e
  | .ite _ _ _ => .fz e
  | .op .add _ _ _ => .fz e
  | e => e
def trU (r : TR) (sc : Scope) (e : Expr) : Option E := match e with
  | .IfExp c a b _ => (r.T sc c).bind fun c' => (trV r sc a).bind fun a' => (trV r sc b).map fun b' => .ite c' (wrapS a') (wrapS b')
  | e => (trV r sc e).map wrapU
def trX (r : TR) (sc : Scope) (e : Expr) : Option E := (trU r sc e).map fun e' => match e' with
  | .call _ _ _ => .fz e'
  | e' => e'
def trLu (r : TR) (sc : Scope) : List Expr → Option EL
  | [] => some .nil
  | e :: es => if isStar e then none else (trU r sc e).bind fun e' => (trLu r sc es).map fun es' => .cons e' es'
def trLw (r : TR) (sc : Scope) : List Expr → Option EL
  | [] => some .nil
  | e :: es => if isStar e then none else (trX r sc e).bind fun e' => (trLw r sc es).map fun es' => .cons e' es'
def trM (m : Mu) (r : TR) (sc : Scope) (es : List Expr) : Option EL := match m with
  | .extend => trLu r sc es
  | _ => trLw r sc es
/-- the arguments of a def; which are handed in and out -/
def trA (r : TR) (sc : Scope) : List Bool → List Expr → Option (List (Option Nat) × EL)
  | [], [] => some ([], .nil)
  | true :: ks, .Name x _ :: es => (slot N sc x).bind fun i => (trA r sc ks es).map fun p => (some i :: p.1, .cons (.v i) p.2)
  | false :: ks, e :: es => if isStar e then none else (trV r sc e).bind fun e' => (trA r sc ks es).map fun p => (none :: p.1, .cons e' p.2)
  | _, _ => none
def trEnd (r : TR) (sc : Scope) : Option Expr → Option (Bool × E)
  | none => some (false, .c .non)
  | some e => (r.E sc e).map fun e' => (true, e')
def boolL (r : TR) (sc : Scope) (mk : E → E → E) : List Expr → Option E
  | [] => none
  | [a] => r.E sc a
  | a :: b :: rest => (r.E sc a).bind fun a' => (boolL r sc mk (b :: rest)).map fun b' => mk a' b'
def boolT (r : TR) (sc : Scope) (mk : E → E → E) : List Expr → Option E
  | [] => none
  | [a] => r.T sc a
  | a :: b :: rest => (r.T sc a).bind fun a' => (boolT r sc mk (b :: rest)).map fun b' => mk a' b'
def slotsOf (N : List Str) (sc : Scope) : List Expr → Option (List Nat)
  | [] => some []
  | .Name x _ :: es => (slot N sc x).bind fun i => (slotsOf N sc es).map fun is => i :: is
  | _ => none
/-- a target; ok says that the name may be stored here -/
def trG (sc : Scope) (ok : Str → Bool) : Expr → Option T
  | .Name x _ => if ok x then (slot N sc x).map .nm else none
  | .Tuple es _ _ => if es.all (fun e => match e with | .Name x _ => ok x | _ => false) then (slotsOf N sc es).map .tp else none
  | _ => none
def trR (r : TR) (sc : Scope) (t : Expr) : Expr → Option Sr
  | .Call (.Name f p) [a] [] pos => if f = "range" ∧ isGl sc f then (if isStar a then none else (r.E sc a).map .rng) else if f = "enumerate" ∧ isGl sc f then (if isStar a || !isTupE t then none else (r.E sc a).map .enum) else (r.E sc (.Call (.Name f p) [a] [] pos)).map fun e => .of (wrapF e)
  | .Call (.Name f p) [a, b, c] [] pos => if f = "range" ∧ isGl sc f then (trL r sc [a, b, c]).map .rng3 else (r.E sc (.Call (.Name f p) [a, b, c] [] pos)).map fun e => .of (wrapF e)
  | e => if isSet e then none else (r.E sc e).map fun e => .of (wrapF e)
def cmpE (r : TR) (sc : Scope) (a : Expr) (ops : List CmpOp) (cs : List Expr) : Option E := match ops, cs with
  | [.Is], [.Constant .none _ _] => (r.E sc a).map (.un .isNone)
  | [.IsNot], [.Constant .none _ _] => (r.E sc a).map (.un .notNone)
  | [o], [b] => if isSet b then none else (cmpOf o).bind fun o' => (r.E sc a).bind fun a' => (r.E sc b).map fun b' => opK o' a' b'
  | [o, q], [b, c] => if isSet b || isSet c then none else (cmpOf o).bind fun o' => (cmpOf q).bind fun q' => (r.E sc a).bind fun a' => (r.E sc b).bind fun b' => (r.E sc c).map fun c' => .chain o' q' a' b' c'
  | _, _ => none
def trC (r : TR) (sc : Scope) : List Expr → Option E
  | [] => some (.c (.bl true))
  | [c] => r.T sc c
  | _ => none
def mu0 (x : Str) : Option Mu := if x = "pop" then some .pop else none
def mu1 (x : Str) : Option Mu := if x = "append" then some .append else if x = "extend" then some .extend else if x = "pop" then some .popAt else none
def mu2 (x : Str) : Option Mu := if x = "insert" then some .insert else if x = "get" then some .getd else none
def muO (m : Option Mu) (r : TR) (sc : Scope) (o : Expr) (as : List Expr) : Option E := match o with
  | .Name x _ => m.bind fun m' => (slot N sc x).bind fun i => (trM m' r sc as).map fun es => .mu m' i es
  | _ => none
def isCut : Expr → Bool
  | .List .. => true
  | .Subscript _ (.Slice ..) _ => true
  | _ => false
def orvE (r : TR) (sc : Scope) (vs : List Expr) : Option E := match vs with
  | [a, b] => if isCut a || isCut b then (r.E sc a).bind fun a' => (r.E sc b).map fun b' => .orv a' b' else none
  | _ => none
def stepC (r : TR) (sc : Scope) (elt t it : Expr) (ifs : List Expr) (n : Int) (scope : Scope) : Option E :=
    if n = 0 ∧ blkC N sc scope (ownOf N scope) = true then
      (trR r sc t it).bind fun src => (trG N (relS scope sc) (fun x => scope.names.lookup x == some .cell || (relS scope sc).names.lookup x == some .local) t).bind fun tg =>
        (trC r (relS scope sc) ifs).bind fun cnd => (trV r (relS scope sc) elt).bind fun elt' =>
            if disj (vwR src) (minus (tg.sl ++ mvE cnd ++ mvE elt') ((ownOf N scope).map (·.2))) && tg.sl.all (fun i => ((ownOf N scope).map (·.2)).contains i) then some (.comp elt' tg src cnd ((ownOf N scope).map (·.2))) else none
    else none
def fnS : U1 → Option U1
  | .sorted => some .sset
  | .len => some .lset
  | _ => none
/-- sorted or len of a set of texts -/
def setA (r : TR) (sc : Scope) (u : U1) : Expr → Option E
  | .SetComp elt [⟨t, it, ifs, n⟩] scope _ => (stepC N r sc elt t it ifs n scope).map (.un u)
  | .Call (.Name f _) [a] [] _ => if ((f == "set") && isGl sc f) && ((Γ.funs.lookup f).isNone && !isStar a) then (r.E sc a).map fun a' => .un u (wrapF a') else none
  | _ => none
/-- sorted(d.items()) -/
def itemS (r : TR) (sc : Scope) : U1 → Expr → Option E
  | .sorted, .Call (.Attribute o m apos) [] [] cpos => if m = "items" then (if isCall o || !(apos.endLine == cpos.line) then none else (r.E sc o).map (.un .items)) else none
  | _, _ => none
def setS (r : TR) (sc : Scope) (u : U1) (a : Expr) : Option E := match itemS r sc u a with
  | some e => some e
  | none => (fnS u).bind fun u' => setA Γ N r sc u' a
mutual
/-- what a constant expression gives -/
def kv : E → Option D
  | .c d => if d.own then none else some d
  | .tup es => (kvL es).map .tup
  | _ => none
def kvL : EL → Option (List D)
  | .nil => some []
  | .cons e es => (kv e).bind fun d => (kvL es).map (d :: ·)
end
/-- both arguments by their names, the second first -/
def trKw (r : TR) (sc : Scope) (f y z : Str) (e1 e2 : Expr) : Option E := if isGl sc f && okN f then (Γ.kws.lookup f).bind fun t => if t.2.1 = z ∧ t.2.2 = y then (r.E sc e1).bind fun a => (r.E sc e2).bind fun b => if (kv a).isSome && (kv b).isSome then some (.call t.1 [none, none] (.cons b (.cons a .nil))) else none else none else none
def stepE (r : TR) (sc : Scope) : Expr → Option E
  | .Name x _ => match slot N sc x with
    | some i => some (.v i)
    | none => if isGl sc x && okN x then (Γ.consts.lookup x).map .c else none
  | .Constant (.int i) _ _ => some (.c (.int i))
  | .Constant (.bool b) _ _ => some (.c (.bl b))
  | .Constant .none _ _ => some (.c .non)
  | .Constant (.str x) _ _ => if asc x.cps.toList then some (.c (.str x.cps.toList)) else none
  | .BinOp a o b _ => (binOf o).bind fun o' => (r.E sc a).bind fun a' => (r.E sc b).map fun b' => opK o' (wrapF a') (wrapF b')
  | .UnaryOp .USub a _ => (r.E sc a).map (.un .neg)
  | .UnaryOp .Not a _ => (r.E sc a).map (.un .not)
  | .Compare a ops cs _ => cmpE r sc a ops cs
  | .BoolOp .And vs _ => boolL r sc .and vs
  | .BoolOp .Or vs _ => match orvE r sc vs with
    | some e => some e
    | none => boolL r sc .or vs
  | .IfExp c a b _ => (r.T sc c).bind fun c' => (r.E sc a).bind fun a' => (r.E sc b).map fun b' => .ite c' a' b'
  | .Tuple es _ _ => if es.length ≤ 1000 then (trLu r sc es).map .tup else none
  | .Dict [] [] _ => some .dnew
  | .List es _ => if es.length ≤ 1000 then (trLu r sc es).map .lst else none
  | .Subscript a (.Slice lo hi none _) _ => (r.E sc a).bind fun a' => (trEnd r sc lo).bind fun l => (trEnd r sc hi).map fun h => .slc (!disj (vwE a') (mvE l.2 ++ mvE h.2)) l.1 h.1 a' l.2 h.2
  | .Subscript a (.Slice lo hi (some x) _) _ => if revS lo hi x then (r.E sc a).map (.un .rev) else none
  | .Subscript a b _ => if isSlice b then none else (r.E sc a).bind fun a' => (r.E sc b).map fun b' => opK .ix a' b'
  | .ListComp elt [⟨t, it, ifs, n⟩] scope _ => stepC N r sc elt t it ifs n scope
  | .Call (.Name f _) args [] _ => if !isGl sc f || !okN f then none else match Γ.funs.lookup f with
    | some (i, ks) => (trA N r sc ks args).map fun p => .call i p.1 p.2
    | none => match args with
      | [a] => if isStar a then none else match fnU f with
        | some u => (match setS Γ N r sc u a with
          | some e => some e
          | none => (r.E sc a).map (.un u))
        | none => (tyU f).bind fun u => (r.E sc a).map fun a' => .un u (wrapF a')
      | [a, b] => if isStar a || isStar b then none else match fn2 f with
        | some o => (r.E sc a).bind fun a' => (r.E sc b).map fun b' => opK o a' b'
        | none => if f = "isinstance" then (match b with
            | .Name y _ => if isGl sc y && okN y then (isN y).bind fun u => (r.E sc a).map (.un u) else none
            | .Tuple [.Name y _, .Name z _] _ _ => if (isGl sc y && okN y) && (isGl sc z && okN z) then (if (y = "tuple" ∧ z = "list") ∨ (y = "list" ∧ z = "tuple") then (r.E sc a).map (.un .isSeq) else none) else none
            | _ => none) else none
      | _ => none
  | .Call (.Name f _) [] [⟨some y, e1, _⟩, ⟨some z, e2, _⟩] _ => trKw Γ r sc f y z e1 e2
  | .Call (.Attribute o m apos) args [] cpos => if isCall o || !(apos.endLine == cpos.line) then none else match args with
    | [] => if m = "upper" then (r.E sc o).map (.un .upper) else muO N (mu0 m) r sc o []
    | [a] => if isStar a then none else
      if m = "split" then (r.E sc o).bind fun o' => (r.E sc a).map fun a' => opK .split o' a'
      else if m = "join" then (r.E sc o).bind fun o' => (r.E sc a).map fun a' => opK .join o' a'
      else if m = "strip" then (r.E sc o).bind fun o' => (r.E sc a).map fun a' => opK .strip o' a'
      else muO N (mu1 m) r sc o [a]
    | [a, b] => if isStar a || isStar b then none else muO N (mu2 m) r sc o [a, b]
    | _ => none
  | _ => none
def stepT (r : TR) (sc : Scope) : Expr → Option E
  | .UnaryOp .Not a _ => (r.T sc a).map (.un .not)
  | .BoolOp .And vs _ => boolT r sc .and vs
  | .BoolOp .Or vs _ => boolT r sc .or vs
  | .Compare a ops cs _ => cmpE r sc a ops cs
  | .Name x p => r.E sc (.Name x p)
  | .Constant c j p => r.E sc (.Constant c j p)
  | .Call f as ks p => r.E sc (.Call f as ks p)
  | .Subscript a b p => r.E sc (.Subscript a b p)
  | _ => none
def tr : Nat → TR
  | 0 => ⟨fun _ _ => none, fun _ _ => none⟩
  | n + 1 => ⟨stepE Γ N (tr n), stepT (tr n)⟩
end
end Z

set_option Elab.async false
set_option linter.all false
set_option maxRecDepth 100000
namespace Z
open PySem PySem.Spec PyProof.Rows L2

def bnames : List Str := ["len", "all", "any", "list", "tuple", "int", "min", "max", "isinstance", "range", "str", "bool", "sorted", "enumerate", "set", "dict"]
/-- what is known of a def's (or a block's) context -/
structure Gd (P : Nat → Option Fn) (Γ : Gm) (k : Nat) (X : Cx) : Prop where
  calm : X.calm = true
  nd : X.N.Nodup
  hp : PassesOwn (model X.prog X.w) X.A X.env X.xe
  room : Room k X.A
  cs : ∀ x d, Γ.consts.lookup x = some d → ∃ u v, X.mg x = some u ∧ RelV v u ∧ ∀ F H, Rep X.kw F H v d []
  bl : ∀ x ∈ bnames, X.mg x = none
  fs : ∀ x f ks, Γ.funs.lookup x = some (f, ks) → ∃ a fd ps, X.mg x = some (.ref a) ∧ PySem.W.keepIn X.kw (.ref a) = true ∧ Binds X.kw fd ps [] ∧ ps.length = ks.length ∧ FnOk X.prog X.w X.kw X.mg X.base CX0 k a fd ps (spF X.kw ks.length (run P k f))
  kw : ∀ x f p q, Γ.kws.lookup x = some (f, p, q) → ∃ a fd, X.mg x = some (.ref a) ∧ PySem.W.keepIn X.kw (.ref a) = true ∧ KB X.kw fd p q ∧ FnOk X.prog X.w X.kw X.mg X.base CX0 k a fd [p, q] (spF X.kw 2 (run P k f))
theorem Gd.blk {P : Nat → Option Fn} {Γ : Gm} {k : Nat} {X : Cx} (G : Gd P Γ k X) (s : Shared) (H : Hp) (scope : Scope) (cenv : PySem.Env) (fp : List Addr) : Gd P Γ k (X.blk s H scope cenv fp) := ⟨G.calm, G.nd, PassesOwn.never, G.room, G.cs, G.bl, G.fs, G.kw⟩
def SE (P : Nat → Option Fn) (k : Nat) (X : Cx) (e : Expr) (e' : E) : Prop := PE X e (tE X.kw (mvE e') (vwE e') (ev (run P k) e'))
def ST (P : Nat → Option Fn) (k : Nat) (X : Cx) (e : Expr) (e' : E) : Prop := PT X e (tT X.kw (mvE e') (ev (run P k) e'))
section
variable {P : Nat → Option Fn} {Γ : Gm} {k : Nat} {X : Cx} {N : List Str} {sc : Scope} {pos : Pos}
theorem hu65 (G : Gd P Γ k X) : X.A.units + 65 < cLine := by have := G.room.un; omega
theorem hu64 (G : Gd P Γ k X) : X.A.units + 64 < cLine := by have := G.room.un; omega
theorem isGl_gl {x : Str} (h : isGl sc x = true) (hs : X.env.scope = sc) : Gl X x := by
  unfold isGl at h
  show X.env.scope.names.lookup x = _
  rw [hs]
  cases e : sc.names.lookup x with
  | none => rw [e] at h; cases h
  | some w => cases w <;> rw [e] at h <;> first | rfl | cases h
theorem isVis_vis {x : Str} (h : isVis sc x = true) (hs : X.env.scope = sc) : Vis X.env.scope x := by
  unfold isVis at h
  rw [hs]
  cases e : sc.names.lookup x with
  | none => rw [e] at h; cases h
  | some w => cases w <;> rw [e] at h <;> first | exact .inl e | exact .inr (.inl e) | exact .inr (.inr e) | cases h
theorem slot_some {x : Str} {i : Nat} (h : slot N sc x = some i) : isVis sc x = true ∧ okN x = true ∧ N[i]? = some x := by
  unfold slot at h
  by_cases q : (isVis sc x && okN x) = true
  · rw [if_pos q] at h
    rw [Bool.and_eq_true] at q
    rw [List.idxOf?_eq_some_iff] at h
    obtain ⟨hi, h1, _⟩ := h
    exact ⟨q.1, q.2, by rw [List.getElem?_eq_getElem hi, h1]⟩
  · rw [if_neg q] at h; cases h
theorem okN_d {x : Str} (h : okN x = true) : (x == ("__debug__" : Str)) = false ∧ (x == ("__classdict__" : Str)) = false := by
  unfold okN at h
  simp only [Bool.and_eq_true, Bool.not_eq_true'] at h
  exact h
theorem pe_slot {x : Str} {i : Nat} (hN : X.N = N) (hs : X.env.scope = sc) (h : slot N sc x = some i) : PE X (.Name x pos) (tVar i) := by
  obtain ⟨h1, h2, h3⟩ := slot_some h
  exact pe_var (by rw [hN]; exact h3) (isVis_vis h1 hs) (okN_d h2).1 (okN_d h2).2
theorem star_cons {e : Expr} {es : List Expr} {env : PySem.Env} (h : isStar e = false) : starEach (e :: es) env = (false, eval e env) :: starEach es env := by
  cases e <;> first | rfl | (simp [isStar] at h)
theorem behind_ok {op : CmpOp} {b : Expr} (h : isSet b = false) : behindInMarks op b = false := by
  cases b <;> first | rfl | (simp [isSet] at h)
/-! equations -/
variable {C : Nat → List D → CR}
theorem ev_fr (i : Nat) : ev C (.fr i) = fun s => match get s i with | some d => .ok d.frz (s.set i (some d.frz)) | none => .bad := rfl
theorem ev_v (i : Nat) : ev C (.v i) = fun s => R.of (get s i) s := rfl
theorem ev_c (d : D) : ev C (.c d) = fun s => .ok d s := rfl
theorem ev_un (u : U1) (a : E) : ev C (.un u a) = fun s => (ev C a s).bind fun x s => R.of (un1 u x) s := rfl
theorem ev_op (o : O2) (k : Bool) (a b : E) : ev C (.op o k a b) = fun s => (ev C a s).bind fun x s => (ev C b s).bind fun y s => if k && x.own then .bad else R.of (op2 o x y) s := rfl
theorem ev_and (a b : E) : ev C (.and a b) = fAnd (ev C a) (ev C b) := rfl
theorem ev_or (a b : E) : ev C (.or a b) = fOr (ev C a) (ev C b) := rfl
theorem ev_ite (c a b : E) : ev C (.ite c a b) = fIte (ev C c) (ev C a) (ev C b) := rfl
theorem ev_orv (a b : E) : ev C (.orv a b) = fOrv (ev C a) (ev C b) := rfl
theorem ev_dnew : ev C .dnew = fun s => .ok (.dct true []) s := rfl
theorem ev_mu (m : Mu) (i : Nat) (es : EL) : ev C (.mu m i es) = fMu m i (evL C es) := rfl
theorem ev_call (f : Nat) (as : List (Option Nat)) (es : EL) : ev C (.call f as es) = fCall as (C f) (evL C es) := rfl
theorem ev_comp (elt : E) (tg : T) (src : Sr) (cnd : E) (own : List Nat) : ev C (.comp elt tg src cnd own) = fComp tg own (evS C src) (ev C cnd) (ev C elt) := rfl
theorem ev_chain (o p : O2) (a b c : E) : ev C (.chain o p a b c) = fChain (op2 o) (op2 p) (ev C a) (ev C b) (ev C c) := rfl
theorem evL_cons (e : E) (es : EL) : evL C (.cons e es) = fun s => (ev C e s).bind fun d s => (evL C es s).bind fun ds s => .ok (d :: ds) s := rfl
theorem evL_nil : evL C .nil = fun s => .ok [] s := rfl

/-! value positions -/
theorem vi_ok {e : Expr} {e' : E} (h : SE P k X e e') : PE X e (tE X.kw (mvE (valI e')) [] (ev (run P k) (valI e'))) := by
  unfold valI
  by_cases hv : (vwE e').isEmpty = true
  · rw [if_pos hv]
    unfold SE at h
    rw [List.isEmpty_iff.mp hv] at h
    exact h
  · rw [if_neg hv]
    exact se_val h
theorem val_ok {e : Expr} {e' : E} (h : SE P k X e e') : PE X e (tE X.kw (mvE (valF e')) [] (ev (run P k) (valF e'))) := by
  cases e' <;> first | exact se_frv h | exact vi_ok h
theorem wrap_ok {e : Expr} {e' : E} (h : SE P k X e e') : SE P k X e (wrapF e') := by
  cases e' <;> first | exact h | exact se_fz h
theorem vwE_of_val {e' : E} (h : True) : True := h

/-- sound translations -/
structure RS (P : Nat → Option Fn) (Γ : Gm) (N : List Str) (k : Nat) (r : TR) : Prop where
  E : ∀ sc e e', r.E sc e = some e' → ∀ X : Cx, X.N = N → X.env.scope = sc → Gd P Γ k X → SE P k X e e'
  T : ∀ sc e e', r.T sc e = some e' → ∀ X : Cx, X.N = N → X.env.scope = sc → Gd P Γ k X → ST P k X e e'
variable {r : TR}
theorem trV_ok (rs : RS P Γ N k r) (hN : X.N = N) (hs : X.env.scope = sc) (G : Gd P Γ k X) {e : Expr} {e' : E} (h : trV r sc e = some e') : PE X e (tE X.kw (mvE e') [] (ev (run P k) e')) := by
  unfold trV at h
  rw [Option.map_eq_some_iff] at h
  obtain ⟨e0, h0, rfl⟩ := h
  exact val_ok (rs.E sc e e0 h0 X hN hs G)
theorem trL_ok (rs : RS P Γ N k r) (hN : X.N = N) (hs : X.env.scope = sc) (G : Gd P Γ k X) : ∀ {es : List Expr} {es' : EL}, trL r sc es = some es' → PA X es (tA X.kw (mvL es') (evL (run P k) es'))
  | [], es', h => by
    cases h
    exact sa_nil
  | e :: es, es', h => by
    unfold trL at h
    cases hst : isStar e with
    | true => rw [hst] at h; cases h
    | false =>
      rw [hst] at h
      simp only [Bool.false_eq_true, if_false, Option.bind_eq_some_iff, Option.map_eq_some_iff] at h
      obtain ⟨e', h1, es2, h2, rfl⟩ := h
      exact sa_cons (trV_ok rs hN hs G h1) (trL_ok rs hN hs G h2) (star_cons hst)
theorem evL_len {C : Nat → List D → CR} : ∀ {es : EL} {s s' : Env} {ds : List D} {n : Nat}, evL C es s = .ok ds s' → True := fun _ => trivial
theorem trL_len : ∀ {es : List Expr} {es' : EL}, trL r sc es = some es' → ∀ (s s' : Env) (ds : List D), evL C es' s = .ok ds s' → ds.length = es.length
  | [], es', h, s, s', ds, e => by
    cases h
    rw [evL_nil] at e
    cases e
    rfl
  | e0 :: es, es', h, s, s', ds, e => by
    unfold trL at h
    cases hst : isStar e0 with
    | true => rw [hst] at h; cases h
    | false =>
      rw [hst] at h
      simp only [Bool.false_eq_true, if_false, Option.bind_eq_some_iff, Option.map_eq_some_iff] at h
      obtain ⟨e', h1, es2, h2, rfl⟩ := h
      rw [evL_cons] at e
      try dsimp only at e
      cases ea : ev C e' s with
      | exc x s' => rw [ea] at e; cases e
      | bad => rw [ea] at e; cases e
      | ok d s1 =>
        rw [ea] at e
        simp only [bind_ok] at e
        cases eb : evL C es2 s1 with
        | exc x s' => rw [eb] at e; cases e
        | bad => rw [eb] at e; cases e
        | ok ds2 s2 =>
          rw [eb] at e
          simp only [bind_ok] at e
          cases e
          rw [List.length_cons, List.length_cons, trL_len h2 s1 _ ds2 eb]
theorem wrapU_ok {X : Cx} {e : Expr} {e0 : E} (q : PE X e (tE X.kw (mvE e0) [] (ev C e0))) : PE X e (tE X.kw (mvE (wrapU e0)) [] (ev C (wrapU e0))) := by
  unfold wrapU
  split <;> first | exact se_fz q | exact q
theorem wrapS_ok {X : Cx} {e : Expr} {e0 : E} (q : PE X e (tE X.kw (mvE e0) [] (ev C e0))) : PE X e (tE X.kw (mvE (wrapS e0)) [] (ev C (wrapS e0))) := by
  unfold wrapS
  split <;> first | exact se_fz q | exact q
theorem trU_ok (rs : RS P Γ N k r) (hN : X.N = N) (hs : X.env.scope = sc) (G : Gd P Γ k X) {e : Expr} {e' : E} (h : trU r sc e = some e') : PE X e (tE X.kw (mvE e') [] (ev (run P k) e')) := by
  unfold trU at h
  split at h
  · simp only [Option.bind_eq_some_iff, Option.map_eq_some_iff] at h
    obtain ⟨c', h0, a', h1, b', h2, rfl⟩ := h
    exact se_ite (rs.T sc _ c' h0 X hN hs G) (wrapS_ok (trV_ok rs hN hs G h1)) (wrapS_ok (trV_ok rs hN hs G h2))
  · rw [Option.map_eq_some_iff] at h
    obtain ⟨e0, h0, rfl⟩ := h
    exact wrapU_ok (trV_ok rs hN hs G h0)
theorem trX_ok (rs : RS P Γ N k r) (hN : X.N = N) (hs : X.env.scope = sc) (G : Gd P Γ k X) {e : Expr} {e' : E} (h : trX r sc e = some e') : PE X e (tE X.kw (mvE e') [] (ev (run P k) e')) := by
  unfold trX at h
  rw [Option.map_eq_some_iff] at h
  obtain ⟨e0, h0, rfl⟩ := h
  have q := trU_ok rs hN hs G h0
  split
  · exact se_fz q
  · exact q
theorem trLu_ok (rs : RS P Γ N k r) (hN : X.N = N) (hs : X.env.scope = sc) (G : Gd P Γ k X) : ∀ {es : List Expr} {es' : EL}, trLu r sc es = some es' → PA X es (tA X.kw (mvL es') (evL (run P k) es'))
  | [], es', h => by
    cases h
    exact sa_nil
  | e :: es, es', h => by
    unfold trLu at h
    cases hst : isStar e with
    | true => rw [hst] at h; cases h
    | false =>
      rw [hst] at h
      simp only [Bool.false_eq_true, if_false, Option.bind_eq_some_iff, Option.map_eq_some_iff] at h
      obtain ⟨e', h1, es2, h2, rfl⟩ := h
      exact sa_cons (trU_ok rs hN hs G h1) (trLu_ok rs hN hs G h2) (star_cons hst)
theorem trLw_ok (rs : RS P Γ N k r) (hN : X.N = N) (hs : X.env.scope = sc) (G : Gd P Γ k X) : ∀ {es : List Expr} {es' : EL}, trLw r sc es = some es' → PA X es (tA X.kw (mvL es') (evL (run P k) es'))
  | [], es', h => by
    cases h
    exact sa_nil
  | e :: es, es', h => by
    unfold trLw at h
    cases hst : isStar e with
    | true => rw [hst] at h; cases h
    | false =>
      rw [hst] at h
      simp only [Bool.false_eq_true, if_false, Option.bind_eq_some_iff, Option.map_eq_some_iff] at h
      obtain ⟨e', h1, es2, h2, rfl⟩ := h
      exact sa_cons (trX_ok rs hN hs G h1) (trLw_ok rs hN hs G h2) (star_cons hst)
theorem trM_ok (rs : RS P Γ N k r) (hN : X.N = N) (hs : X.env.scope = sc) (G : Gd P Γ k X) {m : Mu} {es : List Expr} {es' : EL} (h : trM m r sc es = some es') : PA X es (tA X.kw (mvL es') (evL (run P k) es')) := by
  unfold trM at h
  split at h
  · exact trLu_ok rs hN hs G h
  · exact trLw_ok rs hN hs G h
theorem trLu_len : ∀ {es : List Expr} {es' : EL}, trLu r sc es = some es' → ∀ (s s' : Env) (ds : List D), evL C es' s = .ok ds s' → ds.length = es.length
  | [], es', h, s, s', ds, e => by
    cases h
    rw [evL_nil] at e
    cases e
    rfl
  | e0 :: es, es', h, s, s', ds, e => by
    unfold trLu at h
    cases hst : isStar e0 with
    | true => rw [hst] at h; cases h
    | false =>
      rw [hst] at h
      simp only [Bool.false_eq_true, if_false, Option.bind_eq_some_iff, Option.map_eq_some_iff] at h
      obtain ⟨e', h1, es2, h2, rfl⟩ := h
      rw [evL_cons] at e
      try dsimp only at e
      cases ea : ev C e' s with
      | exc x s' => rw [ea] at e; cases e
      | bad => rw [ea] at e; cases e
      | ok d s1 =>
        rw [ea] at e
        simp only [bind_ok] at e
        cases eb : evL C es2 s1 with
        | exc x s' => rw [eb] at e; cases e
        | bad => rw [eb] at e; cases e
        | ok ds2 s2 =>
          rw [eb] at e
          simp only [bind_ok] at e
          cases e
          rw [List.length_cons, List.length_cons, trLu_len h2 s1 _ ds2 eb]
theorem trA_ok (rs : RS P Γ N k r) (hN : X.N = N) (hs : X.env.scope = sc) (G : Gd P Γ k X) : ∀ {ks : List Bool} {es : List Expr} {p : List (Option Nat) × EL}, trA N r sc ks es = some p →
    PA X es (tK X.kw p.1 (mvL p.2) (evL (run P k) p.2)) ∧ p.1.length = ks.length ∧ es.length = ks.length ∧ ∀ e es2, es = e :: es2 → starEach (e :: es2) X.env = (false, eval e X.env) :: starEach es2 X.env ∧ (∀ ps : Pos, (backTo ps (starEach es2 X.env)).any (·.1) = false)
  | [], [], p, h => by
    cases h
    exact ⟨sk_nil, rfl, rfl, fun _ _ e => nomatch e⟩
  | [], _ :: _, p, h => by simp [trA] at h
  | true :: _, [], p, h => by simp [trA] at h
  | false :: _, [], p, h => by simp [trA] at h
  | true :: ks, e :: es, p, h => by
    cases e <;> (try (simp [trA] at h; done))
    rename_i x xp
    simp only [trA, Option.bind_eq_some_iff, Option.map_eq_some_iff] at h
    obtain ⟨i, h1, q, h2, rfl⟩ := h
    obtain ⟨a, b, c, d⟩ := trA_ok rs hN hs G h2
    refine ⟨sk_io (pe_slot hN hs h1) a rfl, by simp [b], by simp [c], fun e es2 z => ?_⟩
    cases z
    refine ⟨rfl, fun ps => ?_⟩
    cases es with
    | nil => rfl
    | cons e es =>
      obtain ⟨d1, d2⟩ := d e es rfl
      rw [d1]
      show (false || _) = false
      rw [Bool.false_or]
      exact d2 ps
  | false :: ks, e :: es, p, h => by
    unfold trA at h
    cases hst : isStar e with
    | true => rw [hst] at h; cases h
    | false =>
      rw [hst] at h
      simp only [Bool.false_eq_true, if_false, Option.bind_eq_some_iff, Option.map_eq_some_iff] at h
      obtain ⟨e', h1, q, h2, rfl⟩ := h
      obtain ⟨a, b, c, d⟩ := trA_ok rs hN hs G h2
      refine ⟨sk_val (trV_ok rs hN hs G h1) a (star_cons hst), by simp [b], by simp [c], fun e es2 z => ?_⟩
      cases z
      refine ⟨star_cons hst, fun ps => ?_⟩
      cases es with
      | nil => rfl
      | cons e es =>
        obtain ⟨d1, d2⟩ := d e es rfl
        rw [d1]
        show (false || _) = false
        rw [Bool.false_or]
        exact d2 ps
/-! bool operators -/
theorem boolL_and (rs : RS P Γ N k r) (hN : X.N = N) (hs : X.env.scope = sc) (G : Gd P Γ k X) : ∀ {vs : List Expr} {e' : E}, boolL r sc .and vs = some e' → SE P k X (.BoolOp .And vs pos) e'
  | [], _, h => by cases h
  | [a], e', h => pe_one (rs.E sc a e' h X hN hs G)
  | a :: b :: rest, e', h => by
    simp only [boolL, Option.bind_eq_some_iff, Option.map_eq_some_iff] at h
    obtain ⟨a', h1, b', h2, rfl⟩ := h
    exact se_and (rs.E sc a a' h1 X hN hs G) (boolL_and rs hN hs G h2)
theorem boolL_or (rs : RS P Γ N k r) (hN : X.N = N) (hs : X.env.scope = sc) (G : Gd P Γ k X) : ∀ {vs : List Expr} {e' : E}, boolL r sc .or vs = some e' → SE P k X (.BoolOp .Or vs pos) e'
  | [], _, h => by cases h
  | [a], e', h => pe_one (rs.E sc a e' h X hN hs G)
  | a :: b :: rest, e', h => by
    simp only [boolL, Option.bind_eq_some_iff, Option.map_eq_some_iff] at h
    obtain ⟨a', h1, b', h2, rfl⟩ := h
    exact se_or (rs.E sc a a' h1 X hN hs G) (boolL_or rs hN hs G h2)
theorem boolT_and (rs : RS P Γ N k r) (hN : X.N = N) (hs : X.env.scope = sc) (G : Gd P Γ k X) : ∀ {vs : List Expr} {e' : E}, boolT r sc .and vs = some e' → PW X (.BoolOp .And vs pos) (tT X.kw (mvE e') (ev (run P k) e'))
  | [], _, h => by cases h
  | [a], e', h => pw_and1 (rs.T sc a e' h X hN hs G)
  | a :: b :: rest, e', h => by
    simp only [boolT, Option.bind_eq_some_iff, Option.map_eq_some_iff] at h
    obtain ⟨a', h1, b', h2, rfl⟩ := h
    exact st_and (rs.T sc a a' h1 X hN hs G) (boolT_and rs hN hs G h2)
theorem boolT_or (rs : RS P Γ N k r) (hN : X.N = N) (hs : X.env.scope = sc) (G : Gd P Γ k X) : ∀ {vs : List Expr} {e' : E}, boolT r sc .or vs = some e' → PW X (.BoolOp .Or vs pos) (tT X.kw (mvE e') (ev (run P k) e'))
  | [], _, h => by cases h
  | [a], e', h => pw_or1 (rs.T sc a e' h X hN hs G)
  | a :: b :: rest, e', h => by
    simp only [boolT, Option.bind_eq_some_iff, Option.map_eq_some_iff] at h
    obtain ⟨a', h1, b', h2, rfl⟩ := h
    exact st_or (rs.T sc a a' h1 X hN hs G) (boolT_or rs hN hs G h2)
/-! operators -/
theorem binOf_ok {o : Operator} {o' : O2} (h : binOf o = some o') : OpR X (binaryOp o) (rO X.kw (op2 o') false) ∧ o' ≠ .ix := by
  cases o <;> simp only [binOf, reduceCtorEq, Option.some.injEq] at h <;> subst h
  · exact ⟨or_add, by simp⟩
  · exact ⟨or_sub, by simp⟩
  · exact ⟨or_mul, by simp⟩
  · exact ⟨or_mod, by simp⟩
  · exact ⟨or_pow, by simp⟩
  · exact ⟨or_fdiv, by simp⟩
theorem cmpOf_ok (G : Gd P Γ k X) {o : CmpOp} {o' : O2} (h : cmpOf o = some o') : OpR X (compareOp o) (rO X.kw (op2 o') false) ∧ o' ≠ .ix ∧ ∀ x y z, op2 o' x y = some z → ∃ b, z = .bl b := by
  have bb : ∀ {q : Option Bool} {z : D}, q.map D.bl = some z → ∃ b, z = .bl b := fun {q z} h => by
    rw [Option.map_eq_some_iff] at h
    obtain ⟨b, _, e⟩ := h
    exact ⟨b, e.symm⟩
  have bn : ∀ {q : Option Bool} {z : D}, (q.map fun b => D.bl (!b)) = some z → ∃ b, z = .bl b := fun {q z} h => by
    rw [Option.map_eq_some_iff] at h
    obtain ⟨b, _, e⟩ := h
    exact ⟨_, e.symm⟩
  cases o <;> simp only [cmpOf, reduceCtorEq, Option.some.injEq] at h <;> subst h
  · exact ⟨or_eq (hu64 G), by simp, fun x y z h => bb h⟩
  · exact ⟨or_ne (hu64 G), by simp, fun x y z h => bn h⟩
  · refine ⟨or_lt, by simp, fun x y z h => ?_⟩
    cases x <;> cases y <;> simp only [op2, reduceCtorEq, Option.some.injEq] at h <;> exact ⟨_, h.symm⟩
  · refine ⟨or_le, by simp, fun x y z h => ?_⟩
    cases x <;> cases y <;> simp only [op2, reduceCtorEq, Option.some.injEq] at h <;> exact ⟨_, h.symm⟩
  · refine ⟨or_gt, by simp, fun x y z h => ?_⟩
    cases x <;> cases y <;> simp only [op2, reduceCtorEq, Option.some.injEq] at h <;> exact ⟨_, h.symm⟩
  · refine ⟨or_ge, by simp, fun x y z h => ?_⟩
    cases x <;> cases y <;> simp only [op2, reduceCtorEq, Option.some.injEq] at h <;> exact ⟨_, h.symm⟩
  · exact ⟨or_is, by simp, fun x y z h => by
      cases x <;> cases y <;> simp only [op2, reduceCtorEq, Option.some.injEq] at h
      exact ⟨_, h.symm⟩⟩
  · exact ⟨or_isnot, by simp, fun x y z h => by
      cases x <;> cases y <;> simp only [op2, reduceCtorEq, Option.some.injEq] at h
      exact ⟨_, h.symm⟩⟩
  · exact ⟨or_in (hu65 G), by simp, fun x y z h => bb h⟩
  · exact ⟨or_notin (hu65 G), by simp, fun x y z h => bn h⟩
theorem vw_op {o : O2} (h : o ≠ .ix) (k : Bool) (a b : E) : vwE (.op o k a b) = [] := by cases o <;> first | rfl | exact absurd rfl h
theorem kk (a b : List Nat) : (!disj a b) = true ∨ disj a b = true := by cases disj a b <;> simp
end
end Z

set_option Elab.async false
set_option linter.all false
set_option maxRecDepth 100000
namespace Z
open PySem PySem.Spec PyProof.Rows L2

section
variable {P : Nat → Option Fn} {Γ : Gm} {k : Nat} {X : Cx} {N : List Str} {sc : Scope} {pos : Pos} {r : TR}
theorem cmpE_parts {a : Expr} {ops : List CmpOp} {cs : List Expr} {e' : E} (rs : RS P Γ N k r) (hN : X.N = N) (hs : X.env.scope = sc) (G : Gd P Γ k X) (h : cmpE r sc a ops cs = some e') :
    SE P k X (.Compare a ops cs pos) e' ∧ ST P k X (.Compare a ops cs pos) e' := by
  unfold cmpE at h
  split at h
  · rw [Option.map_eq_some_iff] at h
    obtain ⟨a', h1, rfl⟩ := h
    have q := se_isN (j := 0) (p2 := pos) (rs.E sc a a' h1 X hN hs G)
    exact ⟨pe_cmp (se_isN (rs.E sc a a' h1 X hN hs G)) rfl, pt_of (vw := []) (pt_cmp (se_isN (rs.E sc a a' h1 X hN hs G)) rfl) fun _ _ _ h => h⟩
  · rw [Option.map_eq_some_iff] at h
    obtain ⟨a', h1, rfl⟩ := h
    exact ⟨pe_cmp (se_notN (rs.E sc a a' h1 X hN hs G)) rfl, pt_of (vw := []) (pt_cmp (se_notN (rs.E sc a a' h1 X hN hs G)) rfl) fun _ _ _ h => h⟩
  · rename_i o b _ _
    cases hb : isSet b with
    | true => rw [hb] at h; cases h
    | false =>
      rw [hb] at h
      simp only [Bool.false_eq_true, if_false, Option.bind_eq_some_iff, Option.map_eq_some_iff] at h
      obtain ⟨o', h0, a', h1, b', h2, rfl⟩ := h
      obtain ⟨ho, hne, _⟩ := cmpOf_ok G h0
      have ea := rs.E sc a a' h1 X hN hs G
      have eb := rs.E sc b b' h2 X hN hs G
      constructor
      · unfold SE opK
        rw [vw_op hne]
        exact se_cmp (kk _ _) ho ea eb (behind_ok hb)
      · exact st_cmp (kk _ _) ho ea eb (behind_ok hb)
  · rename_i o q b c
    cases hb : isSet b || isSet c with
    | true => rw [hb] at h; cases h
    | false =>
      rw [hb] at h
      simp only [Bool.false_eq_true, if_false, Option.bind_eq_some_iff, Option.map_eq_some_iff] at h
      obtain ⟨o', h0, q', h00, a', h1, b', h2, c', h3, rfl⟩ := h
      obtain ⟨ho, _, hg⟩ := cmpOf_ok G h0
      obtain ⟨hq, _, _⟩ := cmpOf_ok G h00
      rw [Bool.or_eq_false_iff] at hb
      have ea := rs.E sc a a' h1 X hN hs G
      have eb := rs.E sc b b' h2 X hN hs G
      have ec := rs.E sc c c' h3 X hN hs G
      have hm : lastMarks [o, q] [b, c] = false := behind_ok hb.2
      exact ⟨se_chain hg ho hq ea eb ec hm, st_chain hg ho hq ea eb ec hm⟩
  · cases h
theorem slotsOf_ok (hN : X.N = N) (hs : X.env.scope = sc) (hnd : X.N.Nodup) {ok : Str → Bool} (hok : ∀ x, ok x = true → Loc X.env.scope x ∧ (X.fn x = true ∨ X.env.scope.names.lookup x = some .local)) :
    ∀ {es : List Expr} {is : List Nat}, slotsOf N sc es = some is → es.all (fun e => match e with | .Name x _ => ok x | _ => false) = true → PGs X es (gs is) ∧ (assignEach es X.env).length = is.length ∧ (assignEach es X.env).findIdx? (·.1) = none
  | [], is, h, _ => by
    cases h
    exact ⟨pgs_nil, rfl, rfl⟩
  | e :: es, is, h, ha => by
    cases e <;> (try (simp [slotsOf] at h; done))
    rename_i x xp
    simp only [slotsOf, Option.bind_eq_some_iff, Option.map_eq_some_iff] at h
    obtain ⟨i, h1, js, h2, rfl⟩ := h
    rw [List.all_cons, Bool.and_eq_true] at ha
    obtain ⟨q, l, m⟩ := slotsOf_ok hN hs hnd hok h2 ha.2
    obtain ⟨_, _, h3⟩ := slot_some h1
    obtain ⟨o1, o2⟩ := hok x ha.1
    refine ⟨pgs_cons (pg_name hnd (by rw [hN]; exact h3) o1 o2) q, ?_, ?_⟩
    · show (assignEach es X.env).length + 1 = js.length + 1
      rw [l]
    · have e1 : assignEach (.Name x xp :: es) X.env = (false, assign (.Name x xp) X.env) :: assignEach es X.env := rfl
      rw [e1, List.findIdx?_cons, m]
      rfl
theorem trG_ok (hN : X.N = N) (hs : X.env.scope = sc) (hc : X.calm = true) (hnd : X.N.Nodup) {ok : Str → Bool} (hok : ∀ x, ok x = true → Loc X.env.scope x ∧ (X.fn x = true ∨ X.env.scope.names.lookup x = some .local)) {t : Expr} {tg : T}
    (h : trG N sc ok t = some tg) : PG X t (gT X.kw tg) := by
  cases t <;> (try (simp [trG] at h; done))
  · rename_i x xp
    simp only [trG] at h
    cases ho : ok x with
    | false => rw [ho] at h; cases h
    | true =>
      rw [ho] at h
      simp only [if_true, Option.map_eq_some_iff] at h
      obtain ⟨i, h1, rfl⟩ := h
      obtain ⟨_, _, h3⟩ := slot_some h1
      obtain ⟨o1, o2⟩ := hok x ho
      exact pg_name hnd (by rw [hN]; exact h3) o1 o2
  · rename_i es kk tp
    simp only [trG] at h
    split at h
    · rename_i ha
      rw [Option.map_eq_some_iff] at h
      obtain ⟨is, h1, rfl⟩ := h
      obtain ⟨q, l, m⟩ := slotsOf_ok hN hs hnd hok h1 ha
      exact pg_tup hc q l m
    · cases h
end
end Z

set_option Elab.async false
set_option linter.all false
set_option maxRecDepth 100000
namespace Z
open PySem PySem.Spec PyProof.Rows L2

section
variable {P : Nat → Option Fn} {Γ : Gm} {k : Nat} {X : Cx} {N : List Str} {sc : Scope} {pos : Pos} {r : TR}
theorem folded_ok {e : Expr} {env : PySem.Env} (h : isSet e = false) : ∀ x, foldedSetIterable e env x = pure x := by
  intro x
  cases e <;> first | rfl | (simp [isSet] at h)
theorem trR_ok (rs : RS P Γ N k r) (hN : X.N = N) (hs : X.env.scope = sc) (G : Gd P Γ k X) {tg it : Expr} {src : Sr} (h : trR r sc tg it = some src) : PI X tg it (tR X.kw (mvR src) (vwR src) (evS (run P k) src)) ∧ isSet it = false := by
  unfold trR at h
  split at h
  · rename_i f p a pos
    split at h
    · rename_i hf
      cases hst : isStar a with
      | true => rw [hst] at h; cases h
      | false =>
        rw [hst] at h
        simp only [Bool.false_eq_true, if_false, Option.map_eq_some_iff] at h
        obtain ⟨a', h1, rfl⟩ := h
        obtain ⟨rfl, hg⟩ := hf
        exact ⟨sr_rng (isGl_gl hg hs) (G.bl _ (by simp [bnames])) (rs.E sc a a' h1 X hN hs G) (star_cons hst), rfl⟩
    · split at h
      · rename_i hf
        split at h
        · cases h
        · rename_i hst
          have hst : isStar a = false ∧ isTupE tg = true := by simpa using hst
          rw [Option.map_eq_some_iff] at h
          obtain ⟨a', h1, rfl⟩ := h
          obtain ⟨rfl, hg⟩ := hf
          cases tg <;> (try (simp [isTupE] at hst; done))
          exact ⟨sr_enum (isGl_gl hg hs) (G.bl _ (by simp [bnames])) (rs.E sc a a' h1 X hN hs G) (star_cons hst.1), rfl⟩
      · rw [Option.map_eq_some_iff] at h
        obtain ⟨e', h1, rfl⟩ := h
        exact ⟨sr_of (wrap_ok (rs.E sc _ e' h1 X hN hs G)), rfl⟩
  · rename_i f p a b c pos
    split at h
    · rename_i hf
      rw [Option.map_eq_some_iff] at h
      obtain ⟨es, h1, rfl⟩ := h
      obtain ⟨rfl, hg⟩ := hf
      obtain ⟨s1, s2, s3⟩ : isStar a = false ∧ isStar b = false ∧ isStar c = false := by
        unfold trL at h1
        cases sa : isStar a with
        | true => rw [sa] at h1; cases h1
        | false =>
          rw [sa] at h1
          simp only [Bool.false_eq_true, if_false, Option.bind_eq_some_iff, Option.map_eq_some_iff] at h1
          obtain ⟨_, _, _, h2, _⟩ := h1
          unfold trL at h2
          cases sb : isStar b with
          | true => rw [sb] at h2; cases h2
          | false =>
            rw [sb] at h2
            simp only [Bool.false_eq_true, if_false, Option.bind_eq_some_iff, Option.map_eq_some_iff] at h2
            obtain ⟨_, _, _, h3, _⟩ := h2
            unfold trL at h3
            cases sc' : isStar c with
            | true => rw [sc'] at h3; cases h3
            | false => exact ⟨rfl, rfl, rfl⟩
      have e2 : starEach [b, c] X.env = (false, eval b X.env) :: starEach [c] X.env := star_cons s2
      have e3 : starEach [c] X.env = (false, eval c X.env) :: starEach [] X.env := star_cons s3
      exact ⟨sr_rng3 (isGl_gl hg hs) (G.bl _ (by simp [bnames])) (trL_ok rs hN hs G h1) (star_cons s1) (by rw [e2, e3]; rfl), rfl⟩
    · rw [Option.map_eq_some_iff] at h
      obtain ⟨e', h1, rfl⟩ := h
      exact ⟨sr_of (wrap_ok (rs.E sc _ e' h1 X hN hs G)), rfl⟩
  · cases hst : isSet it with
    | true => rw [hst] at h; cases h
    | false =>
      rw [hst] at h
      simp only [Bool.false_eq_true, if_false, Option.map_eq_some_iff] at h
      obtain ⟨e', h1, rfl⟩ := h
      exact ⟨sr_of (wrap_ok (rs.E sc _ e' h1 X hN hs G)), rfl⟩
theorem trC_ok (rs : RS P Γ N k r) (hN : X.N = N) (hs : X.env.scope = sc) (G : Gd P Γ k X) {ifs : List Expr} {cnd : E} (h : trC r sc ifs = some cnd) : PTs X ifs (tT X.kw (mvE cnd) (ev (run P k) cnd)) := by
  unfold trC at h
  split at h
  · cases h
    refine ⟨fun pins s σ H Q I q => pts_nil.run pins s σ H Q I ?_⟩
    obtain ⟨F, s', fps, R, q⟩ := q
    exact q H F fps R .refl
  · exact pts_one (rs.T sc _ cnd h X hN hs G)
  · cases h
/-- the parts of a comprehension -/
structure CompOk (P : Nat → Option Fn) (k : Nat) (X : Cx) (elt t it : Expr) (ifs : List Expr) (scope : Scope) (own : List (Str × Nat)) (elt' : E) (tg : T) (src : Sr) (cnd : E) : Prop where
  hi : PI X t it (tR X.kw (mvR src) (vwR src) (evS (run P k) src))
  ok : BlkOk X.N X.env.scope scope own
  hg : ∀ (s : Shared) (H : Hp) (C : Addr) (cl : List (Str × Addr)) (fp : List Addr), PG (X.blk s H scope (compEnvC scope cl C X.env) fp) t (gT X.kw tg)
  ht : ∀ (s : Shared) (H : Hp) (C : Addr) (cl : List (Str × Addr)) (fp : List Addr), PTs (X.blk s H scope (compEnvC scope cl C X.env) fp) ifs (tT X.kw (mvE cnd) (ev (run P k) cnd))
  he : ∀ (s : Shared) (H : Hp) (C : Addr) (cl : List (Str × Addr)) (fp : List Addr), PE (X.blk s H scope (compEnvC scope cl C X.env) fp) elt (tE X.kw (mvE elt') [] (ev (run P k) elt'))
  hs : isSet it = false
  hd : disj (vwR src) (minus (tg.sl ++ mvE cnd ++ mvE elt') (own.map (·.2))) = true
  ho : ∀ i ∈ tg.sl, i ∈ own.map (·.2)
theorem comp_parts (rs : RS P Γ N k r) (hN : X.N = N) (hs : X.env.scope = sc) (G : Gd P Γ k X) {elt t it : Expr} {ifs : List Expr} {scope : Scope} {e' : E} (h : stepC N r sc elt t it ifs 0 scope = some e') :
    ∃ elt' tg src cnd, e' = .comp elt' tg src cnd ((ownOf N scope).map (·.2)) ∧ CompOk P k X elt t it ifs scope (ownOf N scope) elt' tg src cnd := by
  unfold stepC at h
  split at h
  · rename_i hb
    have hb := hb.2
    simp only [Option.bind_eq_some_iff] at h
    obtain ⟨src, h1, tg, h2, cnd, h3, elt', h4, h5⟩ := h
    split at h5
    · rename_i hd
      cases h5
      rw [Bool.and_eq_true, List.all_eq_true] at hd
      obtain ⟨q1, q2⟩ := trR_ok (tg := t) rs hN hs G h1
      refine ⟨elt', tg, src, cnd, rfl, q1, by rw [hN, hs]; exact blkOk_by hb, fun s H C cl fp => ?_, fun s H C cl fp => ?_, fun s H C cl fp => ?_, q2, hd.1, fun i hi => by simpa using hd.2 i hi⟩
      · have hsc : (X.blk s H scope (compEnvC scope cl C X.env) fp).env.scope = relS scope sc := by rw [← hs]; rfl
        refine trG_ok (X := X.blk s H scope (compEnvC scope cl C X.env) fp) hN hsc G.calm G.nd (fun x hx => ?_) h2
        rw [Bool.or_eq_true] at hx
        rcases hx with hx | hx
        · have e1 : scope.names.lookup x = some .cell := by simpa using hx
          refine ⟨?_, .inl (by show (scope.names.lookup x == some .cell) = true; rw [e1]; rfl)⟩
          rw [hsc]
          exact .inr (lookup_relS_keep (by decide) e1)
        · have e1 : (relS scope sc).names.lookup x = some .local := by simpa using hx
          refine ⟨?_, .inr (by rw [hsc]; exact e1)⟩
          rw [hsc]
          exact .inl e1
      · have hsc : (X.blk s H scope (compEnvC scope cl C X.env) fp).env.scope = relS scope sc := by rw [← hs]; rfl
        exact trC_ok (X := X.blk s H scope (compEnvC scope cl C X.env) fp) rs hN hsc (G.blk s H scope _ fp) h3
      · have hsc : (X.blk s H scope (compEnvC scope cl C X.env) fp).env.scope = relS scope sc := by rw [← hs]; rfl
        exact trV_ok (X := X.blk s H scope (compEnvC scope cl C X.env) fp) rs hN hsc (G.blk s H scope _ fp) h4
    · cases h5
  · cases h
theorem comp_se (G : Gd P Γ k X) {elt t it : Expr} {ifs : List Expr} {scope : Scope} {own : List (Str × Nat)} {elt' : E} {tg : T} {src : Sr} {cnd : E} (c : CompOk P k X elt t it ifs scope own elt' tg src cnd) :
    SE P k X (.ListComp elt [⟨t, it, ifs, 0⟩] scope pos) (.comp elt' tg src cnd (own.map (·.2))) :=
  pe_imp (pe_lc G.calm G.nd c.hi c.ok c.hg c.ht c.he (folded_ok c.hs)) fun σ H Q h => tE_comp c.hd c.ho h
theorem fnU_ok (G : Gd P Γ k X) {x : Str} {u : U1} (h : fnU x = some u) : ∃ id, CallR X (.builtin id) (r1 (rU X.kw (un1 u) false)) ∧ X.mg x = none ∧ bootBuiltins x = some (.builtin id) ∧ x ≠ "__name__" := by
  unfold fnU at h
  split at h
  · rename_i hx; subst hx; cases h
    exact ⟨"len", cu_len, G.bl _ (by simp [bnames]), PySem.boot_len, by decide⟩
  · split at h
    · rename_i hx; subst hx; cases h
      exact ⟨"all", cu_all G.calm, G.bl _ (by simp [bnames]), PyProof.Rows.boot_all, by decide⟩
    · split at h
      · rename_i hx; subst hx; cases h
        exact ⟨"any", cu_any G.calm, G.bl _ (by simp [bnames]), PyProof.Rows.boot_any, by decide⟩
      · split at h
        · rename_i hx; subst hx; cases h
          exact ⟨"sorted", cu_sorted G.calm (by have := G.room.un; omega), G.bl _ (by simp [bnames]), PyProof.Rows.boot_sorted, by decide⟩
        · cases h
theorem tyU_ok (G : Gd P Γ k X) {x : Str} {u : U1} (h : tyU x = some u) : ∃ T, CallR X (.type T) (r1 (rU X.kw (un1 u) false)) ∧ X.mg x = none ∧ bootBuiltins x = some (.type T) ∧ x ≠ "__name__" := by
  unfold tyU at h
  split at h
  · rename_i hx; subst hx; cases h
    exact ⟨"list", cu_list G.calm, G.bl _ (by simp [bnames]), PyProof.Rows.boot_list, by decide⟩
  · split at h
    · rename_i hx; subst hx; cases h
      exact ⟨"tuple", cu_tuple, G.bl _ (by simp [bnames]), PyProof.Rows.boot_tuple, by decide⟩
    · split at h
      · rename_i hx; subst hx; cases h
        exact ⟨"int", cu_int, G.bl _ (by simp [bnames]), PyProof.Rows.boot_int, by decide⟩
      · split at h
        · rename_i hx; subst hx; cases h
          exact ⟨"dict", cu_dict G.calm (hu65 G), G.bl _ (by simp [bnames]), by decide +kernel, by decide⟩
        · cases h
theorem fn2_ok (G : Gd P Γ k X) {x : Str} {u : O2} (h : fn2 x = some u) : ∃ id, CallR X (.builtin id) (r2 (rO X.kw (op2 u) false)) ∧ X.mg x = none ∧ bootBuiltins x = some (.builtin id) ∧ x ≠ "__name__" ∧ u ≠ .ix := by
  unfold fn2 at h
  split at h
  · rename_i hx; subst hx; cases h
    exact ⟨"min", cu_min G.calm, G.bl _ (by simp [bnames]), PyProof.Rows.boot_min, by decide, by simp⟩
  · split at h
    · rename_i hx; subst hx; cases h
      exact ⟨"max", cu_max G.calm, G.bl _ (by simp [bnames]), PyProof.Rows.boot_max, by decide, by simp⟩
    · cases h
theorem isN_ok (G : Gd P Γ k X) {x : Str} {u : U1} (h : isN x = some u) : ∃ T, isU T = some u ∧ X.mg x = none ∧ bootBuiltins x = some (.type T) ∧ x ≠ "__name__" := by
  unfold isN at h
  split at h
  · rename_i hx; subst hx; cases h
    exact ⟨"str", rfl, G.bl _ (by simp [bnames]), by decide +kernel, by decide⟩
  · split at h
    · rename_i hx; subst hx; cases h
      exact ⟨"tuple", rfl, G.bl _ (by simp [bnames]), PyProof.Rows.boot_tuple, by decide⟩
    · split at h
      · rename_i hx; subst hx; cases h
        exact ⟨"list", rfl, G.bl _ (by simp [bnames]), PyProof.Rows.boot_list, by decide⟩
      · split at h
        · rename_i hx; subst hx; cases h
          exact ⟨"bool", rfl, G.bl _ (by simp [bnames]), by decide +kernel, by decide⟩
        · split at h
          · rename_i hx; subst hx; cases h
            exact ⟨"int", rfl, G.bl _ (by simp [bnames]), PyProof.Rows.boot_int, by decide⟩
          · cases h
theorem trEnd_ok (rs : RS P Γ N k r) (hN : X.N = N) (hs : X.env.scope = sc) (G : Gd P Γ k X) {o : Option Expr} {p : Bool × E} (h : trEnd r sc o = some p) : PO X o (tP X.kw (mvE p.2) p.1 (ev (run P k) p.2)) := by
  cases o with
  | none =>
    simp only [trEnd, Option.some.injEq] at h
    subst h
    exact sp_none
  | some e =>
    simp only [trEnd, Option.map_eq_some_iff] at h
    obtain ⟨e', h1, rfl⟩ := h
    exact sp_some (rs.E sc e e' h1 X hN hs G)
theorem plain_ix {b : Expr} (h : isSlice b = false) : PlainIx b := by
  intro o i
  cases b <;> first | rfl | (simp [isSlice] at h)
theorem attr_ok {o : Expr} {m : Str} {env : PySem.Env} (h : isCall o = false) : attributeBase o m env (eval o env) = eval o env := by
  cases o with
  | Call f as ks p =>
    cases f <;> (try rfl)
    cases as with
    | cons _ _ => rfl
    | nil =>
      cases ks with
      | cons _ _ => rfl
      | nil => simp [isCall] at h
  | _ => rfl
theorem call_ok (rs : RS P Γ N k r) (hN : X.N = N) (hs : X.env.scope = sc) (G : Gd P Γ k X) {f : Str} {fp : Pos} {args : List Expr} (hg : isGl sc f = true) (hk : okN f = true) {i : Nat} {ks : List Bool} (hf : Γ.funs.lookup f = some (i, ks)) {p : List (Option Nat) × EL} (h : trA N r sc ks args = some p) :
    SE P k X (.Call (.Name f fp) args [] pos) (.call i p.1 p.2) := by
  obtain ⟨a, fd, ps, h1, h2, h3, h4, h5⟩ := G.fs f i ks hf
  obtain ⟨q1, q2, q3, q4⟩ := trA_ok rs hN hs G h
  unfold SE
  rw [ev_call]
  show PE X _ (tE X.kw (mvL p.2 ++ p.1.filterMap id) [] _)
  rw [← q2] at h5
  cases args with
  | nil =>
    have e0 : ks = [] := List.length_eq_zero_iff.mp (by simpa using q3.symm)
    subst e0
    simp only [trA, Option.some.injEq] at h
    subst h
    refine pe_imp (pe_call0 h5 G.room (isGl_gl hg hs) h1 h2 h3 .nil pass0 (okN_d hk).1) fun σ H Q h => ?_
    have q := tK_call (E := E0) h
    obtain ⟨F, s, fps, R, q⟩ := q
    exact q [] H F fps (fun _ => []) R .refl ⟨rfl, rfl, fun j d e _ => by simp at e, fun j i e => by simp at e, fun i j _ a z => (nomatch z), fun _ _ => rfl⟩ fun j a z => nomatch z
  | cons e es =>
    obtain ⟨s1, s2⟩ := q4 e es rfl
    exact pe_imp (pe_call h5 G.room (isGl_gl hg hs) h1 h2 h3 .nil pass0 q1 (okN_d hk).1 s1 (s2 _)) fun σ H Q h => tK_call h
mutual
theorem kv_ok : ∀ {e : E} {d : D}, kv e = some d → (∀ (C : Nat → List D → CR) (s : Env), ev C e s = .ok d s) ∧ mvE e = [] ∧ vwE e = [] ∧ d.own = false
  | .c d0, d, h => by
    unfold kv at h
    split at h
    · cases h
    · rename_i q
      cases h
      exact ⟨fun _ _ => rfl, rfl, rfl, by simpa using q⟩
  | .tup es, d, h => by
    unfold kv at h
    rw [Option.map_eq_some_iff] at h
    obtain ⟨ds, h1, rfl⟩ := h
    obtain ⟨a, b, c⟩ := kvL_ok h1
    exact ⟨fun C s => by unfold ev; rw [a]; rfl, by unfold mvE; exact b, rfl, c⟩
  | .v _, d, h => by simp [kv] at h
  | .fr _, d, h => by simp [kv] at h
  | .mov _, d, h => by simp [kv] at h
  | .val _, d, h => by simp [kv] at h
  | .fz _, d, h => by simp [kv] at h
  | .un _ _, d, h => by simp [kv] at h
  | .op _ _ _ _, d, h => by simp [kv] at h
  | .slc _ _ _ _ _ _, d, h => by simp [kv] at h
  | .and _ _, d, h => by simp [kv] at h
  | .or _ _, d, h => by simp [kv] at h
  | .ite _ _ _, d, h => by simp [kv] at h
  | .chain _ _ _ _ _, d, h => by simp [kv] at h
  | .lst _, d, h => by simp [kv] at h
  | .dnew, d, h => by simp [kv] at h
  | .orv _ _, d, h => by simp [kv] at h
  | .op3 _ _ _ _, d, h => by simp [kv] at h
  | .call _ _ _, d, h => by simp [kv] at h
  | .mu _ _ _, d, h => by simp [kv] at h
  | .comp _ _ _ _ _, d, h => by simp [kv] at h
theorem kvL_ok : ∀ {es : EL} {ds : List D}, kvL es = some ds → (∀ (C : Nat → List D → CR) (s : Env), evL C es s = .ok ds s) ∧ mvL es = [] ∧ ownL ds = false
  | .nil, ds, h => by
    simp only [kvL, Option.some.injEq] at h
    subst h
    exact ⟨fun _ _ => rfl, rfl, rfl⟩
  | .cons e es, ds, h => by
    unfold kvL at h
    simp only [Option.bind_eq_some_iff, Option.map_eq_some_iff] at h
    obtain ⟨d, h1, ds, h2, rfl⟩ := h
    obtain ⟨a, b, c, o⟩ := kv_ok h1
    obtain ⟨a2, b2, o2⟩ := kvL_ok h2
    refine ⟨fun C s => by rw [evL_cons]; show (ev C e s).bind _ = _; rw [a, bind_ok, a2]; rfl, by unfold mvL; rw [b, b2]; rfl, by simp [ownL, o, o2]⟩
end
theorem trKw_ok (rs : RS P Γ N k r) (hN : X.N = N) (hs : X.env.scope = sc) (G : Gd P Γ k X) {f y z : Str} {fp k1 k2 p : Pos} {e1 e2 : Expr} {e' : E} (h : trKw Γ r sc f y z e1 e2 = some e') :
    SE P k X (.Call (.Name f fp) [] [⟨some y, e1, k1⟩, ⟨some z, e2, k2⟩] p) e' := by
  unfold trKw at h
  split at h
  · rename_i hgk
    rw [Bool.and_eq_true] at hgk
    rw [Option.bind_eq_some_iff] at h
    obtain ⟨⟨i, q1, q2⟩, hl, h⟩ := h
    split at h
    · rename_i hn
      obtain ⟨rfl, rfl⟩ := hn
      simp only [Option.bind_eq_some_iff] at h
      obtain ⟨a, h1, b, h2, h⟩ := h
      split at h
      · rename_i hkv
        rw [Bool.and_eq_true, Option.isSome_iff_exists, Option.isSome_iff_exists] at hkv
        obtain ⟨⟨da, ka⟩, db, kb⟩ := hkv
        cases h
        obtain ⟨a1, a2, a3, a4⟩ := kv_ok ka
        obtain ⟨b1, b2, b3, b4⟩ := kv_ok kb
        have sa := rs.E sc e1 a h1 X hN hs G
        have sb := rs.E sc e2 b h2 X hN hs G
        unfold SE at sa sb ⊢
        rw [a2, a3, show ev (run P k) a = fun s => .ok da s from funext (a1 _)] at sa
        rw [b2, b3, show ev (run P k) b = fun s => .ok db s from funext (b1 _)] at sb
        obtain ⟨ad, fd, m1, m2, m3, m4⟩ := G.kw _ _ _ _ hl
        have e1 : evL (run P k) (.cons b (.cons a .nil)) = fun s => .ok [db, da] s := by
          funext s
          rw [evL_cons]
          show (ev (run P k) b s).bind _ = _
          rw [b1, bind_ok, evL_cons]
          show ((ev (run P k) a s).bind _).bind _ = _
          rw [a1, bind_ok]
          rfl
        rw [ev_call, e1]
        have e2 : mvE (.call i [none, none] (.cons b (.cons a .nil))) = [] := by
          show mvL (.cons b (.cons a .nil)) ++ _ = _
          unfold mvL
          unfold mvL
          rw [a2, b2]
          rfl
        rw [e2]
        exact pe_imp (pe_kw2 (E := E0) m4 G.room (isGl_gl hgk.1 hs) m1 m2 m3 pass0 sa sb (okN_d hgk.2).1) fun σ H Q h => tE_kw2 a4 b4 h
      · cases h
    · cases h
  · cases h
theorem setU_ok (G : Gd P Γ k X) {x : Str} {u u' : U1} (h : fnU x = some u) (h' : fnS u = some u') : ∃ id, CallR X (.builtin id) (r1 (rTS X.w (kU X.kw u'))) ∧ X.mg x = none ∧ bootBuiltins x = some (.builtin id) ∧ x ≠ "__name__" ∧ isSU u' = true := by
  unfold fnU at h
  split at h
  · rename_i hx; subst hx; cases h; cases h'
    exact ⟨"len", cu_tlen, G.bl _ (by simp [bnames]), PySem.boot_len, by decide, rfl⟩
  · split at h
    · cases h; cases h'
    · split at h
      · cases h; cases h'
      · split at h
        · rename_i hx; subst hx; cases h; cases h'
          exact ⟨"sorted", cu_tsort G.calm (by have := G.room.un; omega), G.bl _ (by simp [bnames]), PyProof.Rows.boot_sorted, by decide, rfl⟩
        · cases h
theorem setS_ok (rs : RS P Γ N k r) (hN : X.N = N) (hs : X.env.scope = sc) (G : Gd P Γ k X) {f : Str} {fp p : Pos} {a : Expr} {u : U1} {e' : E} (hg : isGl sc f = true) (hk : okN f = true) (hu : fnU f = some u) (h : setS Γ N r sc u a = some e') : SE P k X (.Call (.Name f fp) [a] [] p) e' := by
  unfold setS at h
  split at h
  · rename_i e0 he
    cases h
    unfold itemS at he
    split at he
    · rename_i o m apos cpos
      split at he
      · rename_i hm
        subst hm
        split at he
        · cases he
        · rename_i hcl
          have hc : isCall o = false := by
            cases q : isCall o with
            | false => rfl
            | true => rw [q] at hcl; simp at hcl
          have hl : (apos.endLine == cpos.line) = true := by
            cases q : (apos.endLine == cpos.line) with
            | true => rfl
            | false => rw [q] at hcl; simp at hcl
          rw [Option.map_eq_some_iff] at he
          obtain ⟨o', h1, rfl⟩ := he
          obtain rfl : f = "sorted" := by
            unfold fnU at hu
            split at hu
            · cases hu
            · split at hu
              · cases hu
              · split at hu
                · cases hu
                · split at hu
                  · assumption
                  · cases hu
          exact pe_imp (pe_callB (cu_so G.calm (by have := G.room.un; omega)) (isGl_gl hg hs) (G.bl _ (by simp [bnames])) PyProof.Rows.boot_sorted (pa_cons (pe_bmq0 (n := 2) PySem.F.plainAttrs_dict PySem.F.slot_dict_items PySem.F.type_dict_items mt_it (rs.E sc o o' h1 X hN hs G) (attr_ok hc) hl) pa_nil rfl) (by decide) (okN_d hk).1 rfl rfl) fun σ H Q h => tE_items h
      · cases he
    · cases he
  rename_i hno
  clear hno
  rw [Option.bind_eq_some_iff] at h
  obtain ⟨u', hu', h⟩ := h
  obtain ⟨id, c1, c2, c3, c4, c5⟩ := setU_ok G hu hu'
  unfold setA at h
  split at h
  · rename_i elt t it ifs n scope p2
    rw [Option.map_eq_some_iff] at h
    obtain ⟨e0, h1, rfl⟩ := h
    by_cases hn : n = 0
    · subst hn
      obtain ⟨elt', tg, src, cnd, rfl, c⟩ := comp_parts rs hN hs G h1
      exact pe_imp (pe_callB c1 (isGl_gl hg hs) c2 c3 (pa_cons (pe_ss G.calm G.nd c.hi c.ok c.hg c.ht c.he (folded_ok c.hs)) pa_nil rfl) c4 (okN_d hk).1 rfl rfl) fun σ H Q h => tE_sc c5 c.hd c.ho h
    · unfold stepC at h1
      rw [if_neg fun q => hn q.1] at h1
      cases h1
  · rename_i g gp b p2
    split at h
    · rename_i hq
      rw [Bool.and_eq_true, Bool.and_eq_true, Bool.and_eq_true, beq_iff_eq] at hq
      obtain ⟨⟨rfl, hg2⟩, _, hst⟩ := hq
      have hst : isStar b = false := by simpa using hst
      rw [Option.map_eq_some_iff] at h
      obtain ⟨b', h1, rfl⟩ := h
      exact pe_imp (pe_callB c1 (isGl_gl hg hs) c2 c3 (pa_cons (pe_callTy (cu_set G.calm) (isGl_gl hg2 hs) (G.bl _ (by simp [bnames])) PyProof.Rows.boot_set (sa_1 (wrap_ok (rs.E sc b b' h1 X hN hs G)) (star_cons hst)) (by decide) (by decide) (star_cons hst) rfl) pa_nil rfl) c4 (okN_d hk).1 rfl rfl) fun σ H Q h => tE_sm c5 h
    · cases h
  · cases h
end
end Z

set_option Elab.async false
set_option linter.all false
set_option maxRecDepth 100000
namespace Z
open PySem PySem.Spec PyProof.Rows L2

section
variable {P : Nat → Option Fn} {Γ : Gm} {k : Nat} {X : Cx} {N : List Str} {sc : Scope} {pos : Pos} {r : TR}
theorem mu0_ok {x : Str} {m : Mu} (h : mu0 x = some m) : ∃ id, PlainAttrs (tyT m.k) ∧ Slot (tyT m.k) x id ∧ typeOf (.builtin id) = pure (.type "method_descriptor") ∧ MtR X id (rMu X.kw m.k m) := by
  unfold mu0 at h
  split at h
  · rename_i hx; subst hx; cases h
    exact ⟨"list.pop", PySem.F.plainAttrs_list, PySem.F.slot_list_pop, PySem.F.type_list_pop, mu_pop⟩
  · cases h
theorem mu1_ok {x : Str} {m : Mu} (h : mu1 x = some m) : ∃ id, PlainAttrs (tyT m.k) ∧ Slot (tyT m.k) x id ∧ typeOf (.builtin id) = pure (.type "method_descriptor") ∧ MtR X id (rMu X.kw m.k m) := by
  unfold mu1 at h
  split at h
  · rename_i hx; subst hx; cases h
    exact ⟨"list.append", PySem.F.plainAttrs_list, PySem.F.slot_list_append, PySem.F.type_list_append, mu_append⟩
  · split at h
    · rename_i hx; subst hx; cases h
      exact ⟨"list.extend", PySem.F.plainAttrs_list, PySem.F.slot_list_extend, PySem.F.type_list_extend, mu_extend⟩
    · split at h
      · rename_i hx; subst hx; cases h
        exact ⟨"list.pop", PySem.F.plainAttrs_list, PySem.F.slot_list_pop, PySem.F.type_list_pop, mu_popAt⟩
      · cases h
theorem mu2_ok (hu : X.A.units + 65 < cLine) {x : Str} {m : Mu} (h : mu2 x = some m) : ∃ id, PlainAttrs (tyT m.k) ∧ Slot (tyT m.k) x id ∧ typeOf (.builtin id) = pure (.type "method_descriptor") ∧ MtR X id (rMu X.kw m.k m) := by
  unfold mu2 at h
  split at h
  · rename_i hx; subst hx; cases h
    exact ⟨"list.insert", PySem.F.plainAttrs_list, PySem.F.slot_list_insert, PySem.F.type_list_insert, mu_insert⟩
  · split at h
    · rename_i hx; subst hx; cases h
      exact ⟨"dict.get", PySem.F.plainAttrs_dict, PySem.F.slot_dict_get, PySem.F.type_dict_get, mu_getd hu⟩
    · cases h
theorem muO_parts {m : Option Mu} {o : Expr} {as : List Expr} {e' : E} (h : muO N m r sc o as = some e') : ∃ x xp m' i es, o = .Name x xp ∧ m = some m' ∧ slot N sc x = some i ∧ trM m' r sc as = some es ∧ e' = .mu m' i es := by
  unfold muO at h
  split at h
  · rename_i x xp
    simp only [Option.bind_eq_some_iff, Option.map_eq_some_iff] at h
    obtain ⟨m', hm, i, hi, es, h1, rfl⟩ := h
    exact ⟨x, xp, m', i, es, rfl, hm, hi, h1, rfl⟩
  · cases h
theorem muO0_ok (hN : X.N = N) (hs : X.env.scope = sc) {m : Str} {o : Expr} {e' : E} {apos cpos : Pos} (hl : (apos.endLine == cpos.line) = true) (h : muO N (mu0 m) r sc o [] = some e') : SE P k X (.Call (.Attribute o m apos) [] [] cpos) e' := by
  obtain ⟨x, xp, m', i, es, rfl, hm, hi, h1, rfl⟩ := muO_parts h
  have h1 : es = .nil := by
    unfold trM at h1
    split at h1 <;> (cases h1; rfl)
  subst h1
  obtain ⟨id, q1, q2, q3, q4⟩ := mu0_ok (X := X) hm
  exact sm_mu0 q1 q2 q3 q4 (pe_slot hN hs hi) hl
theorem muO1_ok (rs : RS P Γ N k r) (hN : X.N = N) (hs : X.env.scope = sc) (G : Gd P Γ k X) {m : Str} {o a : Expr} {e' : E} {apos cpos : Pos} (hl : (apos.endLine == cpos.line) = true) (hst : isStar a = false) (h : muO N (mu1 m) r sc o [a] = some e') :
    SE P k X (.Call (.Attribute o m apos) [a] [] cpos) e' := by
  obtain ⟨x, xp, m', i, es, rfl, hm, hi, h1, rfl⟩ := muO_parts h
  obtain ⟨id, q1, q2, q3, q4⟩ := mu1_ok (X := X) hm
  have hs1 : starEach [a] X.env = [(false, eval a X.env)] := star_cons hst
  exact sm_mu q1 q2 q3 q4 (pe_slot hN hs hi) (trM_ok rs hN hs G h1) hl (by rw [hs1]; rfl) hs1 rfl
theorem muO2_ok (rs : RS P Γ N k r) (hN : X.N = N) (hs : X.env.scope = sc) (G : Gd P Γ k X) {m : Str} {o a b : Expr} {e' : E} {apos cpos : Pos} (hl : (apos.endLine == cpos.line) = true) (hst : isStar a = false) (hst2 : isStar b = false) (h : muO N (mu2 m) r sc o [a, b] = some e') :
    SE P k X (.Call (.Attribute o m apos) [a, b] [] cpos) e' := by
  obtain ⟨x, xp, m', i, es, rfl, hm, hi, h1, rfl⟩ := muO_parts h
  obtain ⟨id, q1, q2, q3, q4⟩ := mu2_ok (X := X) (hu65 G) hm
  have hs2 : starEach [b] X.env = [(false, eval b X.env)] := star_cons hst2
  have hs1 : starEach [a, b] X.env = (false, eval a X.env) :: [(false, eval b X.env)] := by rw [← hs2]; exact star_cons hst
  exact sm_mu q1 q2 q3 q4 (pe_slot hN hs hi) (trM_ok rs hN hs G h1) hl (by rw [hs1]; rfl) (by rw [hs1, hs2]) (by rw [hs2]; rfl)
theorem revS_is {lo hi : Option Expr} {x : Expr} (h : revS lo hi x = true) : ∃ k p1 p3, lo = none ∧ hi = none ∧ x = .UnaryOp .USub (.Constant (.int 1) k p1) p3 := by
  unfold revS at h
  split at h
  · exact ⟨_, _, _, rfl, rfl, rfl⟩
  · cases h
theorem orvE_ok (rs : RS P Γ N k r) (hN : X.N = N) (hs : X.env.scope = sc) (G : Gd P Γ k X) {vs : List Expr} {e' : E} (h : orvE r sc vs = some e') : SE P k X (.BoolOp .Or vs pos) e' := by
  unfold orvE at h
  split at h
  · rename_i a b
    split at h
    · simp only [Option.bind_eq_some_iff, Option.map_eq_some_iff] at h
      obtain ⟨a', h1, b', h2, rfl⟩ := h
      exact se_orv (rs.E sc a a' h1 X hN hs G) (rs.E sc b b' h2 X hN hs G)
    · cases h
  · cases h
theorem stepE_ok (rs : RS P Γ N k r) (hN : X.N = N) (hs : X.env.scope = sc) (G : Gd P Γ k X) {e : Expr} {e' : E} (h : stepE Γ N r sc e = some e') : SE P k X e e' := by
  cases e with
  | Name x p =>
    simp only [stepE] at h
    split at h
    · rename_i i hi
      cases h
      exact se_var (pe_slot hN hs hi)
    · split at h
      · rename_i hg
        rw [Bool.and_eq_true] at hg
        rw [Option.map_eq_some_iff] at h
        obtain ⟨d, h1, rfl⟩ := h
        obtain ⟨u, v, q1, q2, q3⟩ := G.cs x d h1
        exact se_c (pe_glob (isGl_gl hg.1 hs) q1 q2 (okN_d hg.2).1) q3
      · cases h
  | Constant c j p =>
    cases c <;> (try (simp [stepE] at h; done))
    · simp only [stepE, Option.some.injEq] at h
      subst h
      exact se_c pe_non fun _ _ => .non
    · simp only [stepE, Option.some.injEq] at h
      subst h
      exact se_c pe_bl fun _ _ => .bl _
    · simp only [stepE, Option.some.injEq] at h
      subst h
      exact se_c pe_int fun _ _ => .int _
    · rename_i x
      simp only [stepE] at h
      split at h
      · rename_i ha
        cases h
        refine se_c pe_str fun F H => ?_
        have q := Rep.str (K := X.kw) (F := F) (H := H) x.cps.toList ha
        have e : (⟨x.cps.toList.toArray⟩ : Str) = x := SX.S_tl x
        rw [e] at q
        exact q
      · cases h
  | BinOp a o b p =>
    simp only [stepE, Option.bind_eq_some_iff, Option.map_eq_some_iff] at h
    obtain ⟨o', h0, a', h1, b', h2, rfl⟩ := h
    obtain ⟨ho, hne⟩ := binOf_ok (X := X) h0
    unfold SE opK
    rw [vw_op hne]
    exact se_op (kk _ _) (pe_op ho (wrap_ok (rs.E sc a a' h1 X hN hs G)) (wrap_ok (rs.E sc b b' h2 X hN hs G)))
  | UnaryOp o a p =>
    cases o <;> (try (simp [stepE] at h; done))
    · simp only [stepE, Option.map_eq_some_iff] at h
      obtain ⟨a', h1, rfl⟩ := h
      exact se_not (rs.E sc a a' h1 X hN hs G)
    · simp only [stepE, Option.map_eq_some_iff] at h
      obtain ⟨a', h1, rfl⟩ := h
      exact se_un (x := a) (pe_un un_negZ (rs.E sc a a' h1 X hN hs G))
  | Compare a ops cs p =>
    simp only [stepE] at h
    exact (cmpE_parts rs hN hs G h).1
  | BoolOp o vs p =>
    cases o
    · simp only [stepE] at h
      exact boolL_and rs hN hs G h
    · simp only [stepE] at h
      split at h
      · rename_i e1 he
        cases h
        exact orvE_ok rs hN hs G he
      · exact boolL_or rs hN hs G h
  | Dict ks vs p =>
    cases ks with
    | cons _ _ => simp [stepE] at h
    | nil =>
      cases vs with
      | cons _ _ => simp [stepE] at h
      | nil =>
        simp only [stepE, Option.some.injEq] at h
        subst h
        exact se_dnew
  | IfExp c a b p =>
    simp only [stepE, Option.bind_eq_some_iff, Option.map_eq_some_iff] at h
    obtain ⟨c', h0, a', h1, b', h2, rfl⟩ := h
    exact se_ite (rs.T sc c c' h0 X hN hs G) (rs.E sc a a' h1 X hN hs G) (rs.E sc b b' h2 X hN hs G)
  | Tuple es kk p =>
    simp only [stepE] at h
    split at h
    · rename_i hl
      rw [Option.map_eq_some_iff] at h
      obtain ⟨es', h1, rfl⟩ := h
      exact se_tup (trLu_ok rs hN hs G h1) fun s ds s' e => by
        rw [trLu_len h1 s s' ds e]
        exact Nat.le_trans hl (by decide)
    · cases h
  | List es p =>
    simp only [stepE] at h
    split at h
    · rename_i hl
      rw [Option.map_eq_some_iff] at h
      obtain ⟨es', h1, rfl⟩ := h
      exact se_lst (trLu_ok rs hN hs G h1) fun s ds s' e => by
        rw [trLu_len h1 s s' ds e]
        exact Nat.le_trans hl (by decide)
    · cases h
  | Subscript a b p =>
    have plain : isSlice b = false → ((r.E sc a).bind fun a' => (r.E sc b).map fun b' => opK .ix a' b') = some e' → SE P k X (.Subscript a b p) e' := fun hb h => by
      simp only [Option.bind_eq_some_iff, Option.map_eq_some_iff] at h
      obtain ⟨a', h1, b', h2, rfl⟩ := h
      exact se_opv (kk _ _) (pe_ix (ir_ix (hu65 G)) (rs.E sc a a' h1 X hN hs G) (rs.E sc b b' h2 X hN hs G) (plain_ix hb))
    cases b with
    | Slice lo hi st p2 =>
      cases st with
      | none =>
        simp only [stepE, Option.bind_eq_some_iff, Option.map_eq_some_iff] at h
        obtain ⟨a', h1, l, h2, u, h3, rfl⟩ := h
        exact se_slc (kk _ _) (rs.E sc a a' h1 X hN hs G) (trEnd_ok rs hN hs G h2) (trEnd_ok rs hN hs G h3)
      | some x =>
        simp only [stepE] at h
        split at h
        · rename_i hr
          obtain ⟨kk, p1, p3, rfl, rfl, rfl⟩ := revS_is hr
          rw [Option.map_eq_some_iff] at h
          obtain ⟨a', h1, rfl⟩ := h
          exact se_rev (rs.E sc a a' h1 X hN hs G)
        · cases h
    | _ =>
      refine plain rfl ?_
      simpa [stepE, isSlice] using h
  | ListComp elt gens scope p =>
    cases gens with
    | nil => simp [stepE] at h
    | cons g gs =>
      cases gs with
      | cons _ _ => simp [stepE] at h
      | nil =>
        obtain ⟨t, it, ifs, n⟩ := g
        by_cases hn : n = 0
        · subst hn
          simp only [stepE] at h
          obtain ⟨elt', tg, src, cnd, rfl, c⟩ := comp_parts rs hN hs G h
          exact comp_se G c
        · simp only [stepE, stepC] at h
          rw [if_neg fun q => hn q.1] at h
          cases h
  | Call f args ks p =>
    cases ks with
    | cons k1 ks =>
      cases f <;> (try (simp [stepE] at h; done))
      cases args with
      | cons _ _ => simp [stepE] at h
      | nil =>
        cases ks with
        | nil => simp [stepE] at h
        | cons k2 ks =>
          cases ks with
          | cons _ _ => simp [stepE] at h
          | nil =>
            obtain ⟨y, e1, p1⟩ := k1
            obtain ⟨z, e2, p2⟩ := k2
            cases y <;> cases z <;> (try (simp [stepE] at h; done))
            simp only [stepE] at h
            exact trKw_ok rs hN hs G h
    | nil =>
      cases f with
      | Name f fp =>
        simp only [stepE] at h
        split at h
        · cases h
        · rename_i hgk
          have hg : isGl sc f = true := by
            cases q : isGl sc f with
            | true => rfl
            | false => rw [q] at hgk; simp at hgk
          have hk : okN f = true := by
            cases q : okN f with
            | true => rfl
            | false => rw [q] at hgk; simp at hgk
          split at h
          · rename_i i kks hf
            rw [Option.map_eq_some_iff] at h
            obtain ⟨q, h1, rfl⟩ := h
            exact call_ok rs hN hs G hg hk hf h1
          · split at h
            · rename_i a
              split at h
              · cases h
              · rename_i hst
                have hst : isStar a = false := by simpa using hst
                split at h
                · rename_i u hu
                  split at h
                  · rename_i e0 he
                    cases h
                    exact setS_ok rs hN hs G hg hk hu he
                  rw [Option.map_eq_some_iff] at h
                  obtain ⟨a', h1, rfl⟩ := h
                  obtain ⟨id, c1, c2, c3, c4⟩ := fnU_ok G hu
                  exact sb_fn c1 (isGl_gl hg hs) c2 c3 (rs.E sc a a' h1 X hN hs G) (star_cons hst) c4 (okN_d hk).1
                · simp only [Option.bind_eq_some_iff, Option.map_eq_some_iff] at h
                  obtain ⟨u, hu, a', h1, rfl⟩ := h
                  obtain ⟨id, c1, c2, c3, c4⟩ := tyU_ok G hu
                  exact sb_ty c1 (isGl_gl hg hs) c2 c3 (wrap_ok (rs.E sc a a' h1 X hN hs G)) (star_cons hst) c4 (okN_d hk).1
            · rename_i a b
              split at h
              · cases h
              · rename_i hst
                have hst : isStar a = false ∧ isStar b = false := by simpa using hst
                split at h
                · rename_i o ho
                  simp only [Option.bind_eq_some_iff, Option.map_eq_some_iff] at h
                  obtain ⟨a', h1, b', h2, rfl⟩ := h
                  obtain ⟨id, c1, c2, c3, c4, c5⟩ := fn2_ok G ho
                  unfold SE opK
                  rw [vw_op c5]
                  exact sb_fn2 c1 (isGl_gl hg hs) c2 c3 (kk _ _) (rs.E sc a a' h1 X hN hs G) (rs.E sc b b' h2 X hN hs G) (star_cons hst.1) (star_cons hst.2) c4 (okN_d hk).1
                · split at h
                  · rename_i hf
                    split at h
                    · rename_i y yp
                      split at h
                      · rename_i hy
                        rw [Bool.and_eq_true] at hy
                        simp only [Option.bind_eq_some_iff, Option.map_eq_some_iff] at h
                        obtain ⟨u, hu, a', h1, rfl⟩ := h
                        obtain ⟨T, c1, c2, c3, c4⟩ := isN_ok G hu
                        exact sb_isi c1 hf (isGl_gl hg hs) (by rw [hf]; exact G.bl _ (by simp [bnames])) (isGl_gl hy.1 hs) c2 c3 c4 (okN_d hy.2).1 (rs.E sc a a' h1 X hN hs G) (star_cons hst.1)
                      · cases h
                    · rename_i y yp z zp n3 p3
                      split at h
                      · rename_i hyz
                        rw [Bool.and_eq_true, Bool.and_eq_true, Bool.and_eq_true] at hyz
                        split at h
                        · rename_i hab
                          rw [Option.map_eq_some_iff] at h
                          obtain ⟨a', h1, rfl⟩ := h
                          rcases hab with ⟨rfl, rfl⟩ | ⟨rfl, rfl⟩
                          · exact sb_seq (.inl ⟨rfl, rfl⟩) hf (isGl_gl hg hs) (by rw [hf]; exact G.bl _ (by simp [bnames])) (isGl_gl hyz.1.1 hs) (G.bl _ (by simp [bnames])) PyProof.Rows.boot_tuple (by decide) (okN_d hyz.1.2).1
                              (isGl_gl hyz.2.1 hs) (G.bl _ (by simp [bnames])) PyProof.Rows.boot_list (by decide) (okN_d hyz.2.2).1 (rs.E sc a a' h1 X hN hs G) (star_cons hst.1)
                          · exact sb_seq (.inr ⟨rfl, rfl⟩) hf (isGl_gl hg hs) (by rw [hf]; exact G.bl _ (by simp [bnames])) (isGl_gl hyz.1.1 hs) (G.bl _ (by simp [bnames])) PyProof.Rows.boot_list (by decide) (okN_d hyz.1.2).1
                              (isGl_gl hyz.2.1 hs) (G.bl _ (by simp [bnames])) PyProof.Rows.boot_tuple (by decide) (okN_d hyz.2.2).1 (rs.E sc a a' h1 X hN hs G) (star_cons hst.1)
                        · cases h
                      · cases h
                    · cases h
                  · cases h
            · cases h
      | Attribute o m apos =>
        simp only [stepE] at h
        split at h
        · cases h
        · rename_i hcl
          have hc : isCall o = false := by
            cases q : isCall o with
            | false => rfl
            | true => rw [q] at hcl; simp at hcl
          have hl : (apos.endLine == p.line) = true := by
            cases q : (apos.endLine == p.line) with
            | true => rfl
            | false => rw [q] at hcl; simp at hcl
          split at h
          · split at h
            · rename_i hm
              subst hm
              rw [Option.map_eq_some_iff] at h
              obtain ⟨a', h1, rfl⟩ := h
              exact sm_m0 upper_str PySem.F.plainAttrs_str PySem.F.slot_str_upper PySem.F.type_str_upper mu_upper (rs.E sc o a' h1 X hN hs G) (attr_ok hc) hl
            · exact muO0_ok hN hs hl h
          · rename_i a
            split at h
            · cases h
            · rename_i hst
              have hst : isStar a = false := by simpa using hst
              split at h
              · rename_i hm
                subst hm
                simp only [Option.bind_eq_some_iff, Option.map_eq_some_iff] at h
                obtain ⟨a', h1, b', h2, rfl⟩ := h
                exact sm_m1 split_str PySem.F.plainAttrs_str PySem.F.slot_str_split PySem.F.type_str_split mu_split (kk _ _) (rs.E sc o a' h1 X hN hs G) (rs.E sc a b' h2 X hN hs G) (attr_ok hc) hl (star_cons hst)
              · split at h
                · rename_i hm
                  subst hm
                  simp only [Option.bind_eq_some_iff, Option.map_eq_some_iff] at h
                  obtain ⟨a', h1, b', h2, rfl⟩ := h
                  exact sm_m1 join_str PySem.F.plainAttrs_str PySem.F.slot_str_join PySem.F.type_str_join mu_join (kk _ _) (rs.E sc o a' h1 X hN hs G) (rs.E sc a b' h2 X hN hs G) (attr_ok hc) hl (star_cons hst)
                · split at h
                  · rename_i hm
                    subst hm
                    simp only [Option.bind_eq_some_iff, Option.map_eq_some_iff] at h
                    obtain ⟨a', h1, b', h2, rfl⟩ := h
                    exact sm_m1 strip_str PySem.F.plainAttrs_str PySem.F.slot_str_strip PySem.F.type_str_strip mu_strip (kk _ _) (rs.E sc o a' h1 X hN hs G) (rs.E sc a b' h2 X hN hs G) (attr_ok hc) hl (star_cons hst)
                  · exact muO1_ok rs hN hs G hl hst h
          · rename_i a b
            split at h
            · cases h
            · rename_i hst
              have hst : isStar a = false ∧ isStar b = false := by simpa using hst
              exact muO2_ok rs hN hs G hl hst.1 hst.2 h
          · cases h
      | _ => simp [stepE] at h
  | _ => simp [stepE] at h
theorem stepT_ok (rs : RS P Γ N k r) (hN : X.N = N) (hs : X.env.scope = sc) (G : Gd P Γ k X) {e : Expr} {e' : E} (h : stepT r sc e = some e') : ST P k X e e' := by
  cases e with
  | UnaryOp o a p =>
    cases o <;> (try (simp [stepT] at h; done))
    simp only [stepT, Option.map_eq_some_iff] at h
    obtain ⟨a', h1, rfl⟩ := h
    exact st_not (rs.T sc a a' h1 X hN hs G)
  | BoolOp o vs p =>
    cases o
    · simp only [stepT] at h
      exact (boolT_and rs hN hs G h).pt
    · simp only [stepT] at h
      exact (boolT_or rs hN hs G h).pt
  | Compare a ops cs p =>
    simp only [stepT] at h
    exact (cmpE_parts rs hN hs G h).2
  | Name x p => exact st_val (rs.E sc _ e' h X hN hs G) fun _ => rfl
  | Constant c j p => exact st_val (rs.E sc _ e' h X hN hs G) fun _ => rfl
  | Call f as ks p => exact st_val (rs.E sc _ e' h X hN hs G) fun _ => rfl
  | Subscript a b p => exact st_val (rs.E sc _ e' h X hN hs G) fun _ => rfl
  | _ => simp [stepT] at h
theorem tr_ok (P : Nat → Option Fn) (Γ : Gm) (N : List Str) (k : Nat) : ∀ n : Nat, RS P Γ N k (tr Γ N n)
  | 0 => ⟨fun _ _ _ h => by simp [tr] at h, fun _ _ _ h => by simp [tr] at h⟩
  | n + 1 => ⟨fun sc e e' h X hN hs G => stepE_ok (tr_ok P Γ N k n) hN hs G h, fun sc e e' h X hN hs G => stepT_ok (tr_ok P Γ N k n) hN hs G h⟩
end
end Z

set_option Elab.async false
set_option linter.all false
set_option maxRecDepth 100000
namespace Z
open PySem PySem.Spec PyProof.Rows L2

/-! ### statements from the text -/
def isDoc : Expr → Bool
  | .Constant (.str _) _ _ => true
  | _ => false
def okL (sc : Scope) (x : Str) : Bool := match sc.names.lookup x with
  | some .local => true
  | some .cell => true
  | _ => false
def swapB (sc : Scope) (t : Str) (tp : Pos) (scope : Scope) (vp : Pos) : Bool := sc.names.lookup t == some .local && tp.line == vp.line && !(scope.names.any fun p => p.1 == t && (p.2 == .local || p.2 == .cell))
def augOf : Operator → Option O2
  | .Add => some .add
  | .Sub => some .sub
  | _ => none
section
variable (Γ : Gm) (N : List Str)
def trB (f : Stmt → Option S) : List Stmt → Option S
  | [] => some .skip
  | [s] => f s
  | s :: rest => (f s).bind fun a => (trB f rest).map fun b => .seq a b
def retV (r : TR) (sc : Scope) (e : Expr) : Option E := match r.E sc e with
  | some (.v i) => some (.mov i)
  | _ => trV r sc e
def retE (r : TR) (sc : Scope) (e : Expr) : Option E := match e with
  | .IfExp c a b _ => (r.T sc c).bind fun c' => (retV r sc a).bind fun a' => (retV r sc b).map fun b' => .ite c' a' b'
  | e => retV r sc e
/-- what is stored is frozen -/
def trW (r : TR) (sc : Scope) (e : Expr) : Option E := (trV r sc e).map wrapS
def trS (r : TR) (sc : Scope) : Nat → Stmt → Option S
  | 0, _ => none
  | n + 1, st => match st with
    | .Expr e _ => if isDoc e then some .skip else if isComp e then none else (r.E sc e).map .ex
    | .Assign [.Name x xp] e p => if okL sc x then (slot N sc x).bind fun i => match e with
        | .ListComp elt gs scope cp => if swapB sc x xp scope cp then (r.E sc (.ListComp elt gs scope cp)).map fun e' => .asg i e' else (trV r sc (.ListComp elt gs scope cp)).map fun e' => .asg i e'
        | e => if isComp e then none else (trV r sc e).map fun e' => .asg i e'
      else none
    | .Assign [.Tuple es kk tp] e _ => if isComp e || isTupE e then none else (trG N sc (okL sc) (.Tuple es kk tp)).bind fun tg => match tg with
        | .tp is => (trV r sc e).map fun e' => .unp is e'
        | _ => none
    | .Assign [.Subscript (.Name x _) (.Slice lo hi none _) _] e _ => if isComp e then none else (slot N sc x).bind fun i => (trEnd r sc lo).bind fun l => (trEnd r sc hi).bind fun u => (trV r sc e).map fun e' => .sst i l.1 u.1 l.2 u.2 e'
    | .Assign [.Subscript (.Name x _) k _] e _ => if isComp e || isSlice k then none else (slot N sc x).bind fun i => (r.E sc k).bind fun k' => (trW r sc e).map fun e' => .st i k' e'
    | .AugAssign (.Name x _) o e _ => if okL sc x then (slot N sc x).bind fun i => (augOf o).bind fun o' => (r.E sc e).map fun e' => .aug i o' e' else none
    | .Return (some e) _ => (retE r sc e).map .ret
    | .Return none _ => some (.ret (.c .non))
    | .If c a b _ => (r.T sc c).bind fun c' => (trB (trS r sc n) a).bind fun a' => (trB (trS r sc n) b).map fun b' => .ite c' a' b'
    | .While c a [] _ => (r.T sc c).bind fun c' => (trB (trS r sc n) a).map fun a' => .wh c' a'
    | .For t it a [] _ => (trR r sc t it).bind fun src => (trG N sc (okL sc) t).bind fun tg => (trB (trS r sc n) a).bind fun a' => if disj (vwR src) (mvS a' ++ tg.sl) then some (.for tg src a') else none
    | .Break _ => some .brk
    | .Continue _ => some .cnt
    | .Pass _ => some .skip
    | .Raise .. => some .bad
    | _ => none
end
section
variable {P : Nat → Option Fn} {Γ : Gm} {k : Nat} {X : Cx} {N : List Str} {sc : Scope} {pos : Pos} {r : TR}
def SS (P : Nat → Option Fn) (k : Nat) (X : Cx) (st : Stmt) (s : S) : Prop := PS X st (tS X.kw (mvS s) (asS s) (exec (run P k) s))
def SB (P : Nat → Option Fn) (k : Nat) (X : Cx) (st : List Stmt) (s : S) : Prop := PSs X st (tS X.kw (mvS s) (asS s) (exec (run P k) s))
theorem trB_ok {f : Stmt → Option S} (hf : ∀ st s, f st = some s → SS P k X st s) : ∀ {sts : List Stmt} {s : S}, trB f sts = some s → SB P k X sts s
  | [], s, h => by
    cases h
    exact sss_nil
  | [st], s, h => sss_one (hf st s h)
  | st :: st2 :: rest, s, h => by
    simp only [trB, Option.bind_eq_some_iff, Option.map_eq_some_iff] at h
    obtain ⟨a, h1, b, h2, rfl⟩ := h
    exact sss_cons (hf st a h1) (trB_ok hf h2)
theorem okL_loc {x : Str} (h : okL sc x = true) (hs : X.env.scope = sc) : Loc X.env.scope x := by
  unfold okL at h
  rw [hs]
  cases e : sc.names.lookup x with
  | none => rw [e] at h; cases h
  | some w => cases w <;> rw [e] at h <;> first | exact .inl e | exact .inr e | cases h
theorem swaps_no {e : Expr} {t : Option Expr} {l : Nat} {env : PySem.Env} (h : isComp e = false) : swapsWith e t l env = pure false := by
  cases e <;> first | rfl | (simp [isComp] at h)
theorem swaps_tup {e t : Expr} {l : Nat} {env : PySem.Env} (h : isComp e = false) : swapsWithSole [t] e l env = pure false := swaps_no h
theorem stores_no {e : Expr} {es : List Expr} {kk : Nat} {tp : Pos} {env : PySem.Env} (h : isTupE e = false) : swappedStores [.Tuple es kk tp] e env = pure none := by
  cases e <;> first | rfl | (simp [isTupE] at h)
theorem augOf_ok {o : Operator} {o' : O2} (h : augOf o = some o') : PIp X o (rAug X.kw o') := by
  cases o <;> simp only [augOf, reduceCtorEq, Option.some.injEq] at h <;> subst h
  · exact ip_addZ
  · exact ip_subZ
theorem trW_ok (rs : RS P Γ N k r) (hN : X.N = N) (hs : X.env.scope = sc) (G : Gd P Γ k X) {e : Expr} {e' : E} (h : trW r sc e = some e') : PE X e (tE X.kw (mvE e') [] (ev (run P k) e')) := by
  unfold trW at h
  rw [Option.map_eq_some_iff] at h
  obtain ⟨e0, h0, rfl⟩ := h
  have q := trV_ok rs hN hs G h0
  unfold wrapS
  split <;> first | exact se_fz q | exact q
theorem retV_ok (rs : RS P Γ N k r) (hN : X.N = N) (hs : X.env.scope = sc) (G : Gd P Γ k X) {e : Expr} {e' : E} (h : retV r sc e = some e') : PE X e (tE X.kw (mvE e') [] (ev (run P k) e')) := by
  unfold retV at h
  split at h
  · rename_i i hi
    cases h
    exact se_movv (rs.E sc e _ hi X hN hs G)
  · exact trV_ok rs hN hs G h
theorem retE_ok (rs : RS P Γ N k r) (hN : X.N = N) (hs : X.env.scope = sc) (G : Gd P Γ k X) {e : Expr} {e' : E} (h : retE r sc e = some e') : PE X e (tE X.kw (mvE e') [] (ev (run P k) e')) := by
  unfold retE at h
  split at h
  · simp only [Option.bind_eq_some_iff, Option.map_eq_some_iff] at h
    obtain ⟨c', h0, a', h1, b', h2, rfl⟩ := h
    exact se_ite (rs.T sc _ c' h0 X hN hs G) (retV_ok rs hN hs G h1) (retV_ok rs hN hs G h2)
  · exact retV_ok rs hN hs G h
theorem swap_yes {elt : Expr} {gs : List Comprehension} {scope : Scope} {cp xp : Pos} {x : Str} {l : Nat} {env : PySem.Env} (hk : env.scope.kind = .function) (h : swapB env.scope x xp scope cp = true) : swapsWith (.ListComp elt gs scope cp) (some (.Name x xp)) l env = pure true := by
  unfold swapB at h
  rw [Bool.and_eq_true, Bool.and_eq_true] at h
  refine sw_true hk (by simpa using h.1.1) h.1.2 ?_
  simpa using h.2
theorem swap_not {elt : Expr} {gs : List Comprehension} {scope : Scope} {cp xp : Pos} {x : Str} {l : Nat} {env : PySem.Env} (hk : env.scope.kind = .function) (h : swapB env.scope x xp scope cp = false) : swapsWith (.ListComp elt gs scope cp) (some (.Name x xp)) l env = pure false := by
  have hb : env.blockKind = .function := by unfold Env.blockKind; rw [hk]; rfl
  unfold swapB at h
  unfold swapsWith
  simp only [hb, Env.kindOf, Expr.pos]
  congr 1
/-- comprehensions by their parts -/
def RL (P : Nat → Option Fn) (Γ : Gm) (N : List Str) (k : Nat) (r : TR) : Prop := ∀ sc elt gs scope pos e', r.E sc (.ListComp elt gs scope pos) = some e' → ∀ X : Cx, X.N = N → X.env.scope = sc → Gd P Γ k X →
  ∃ t it ifs elt' tg src cnd, gs = [⟨t, it, ifs, 0⟩] ∧ e' = .comp elt' tg src cnd ((ownOf N scope).map (·.2)) ∧ CompOk P k X elt t it ifs scope (ownOf N scope) elt' tg src cnd
theorem tr_rl (P : Nat → Option Fn) (Γ : Gm) (N : List Str) (k : Nat) : ∀ n : Nat, RL P Γ N k (tr Γ N n)
  | 0 => fun _ _ _ _ _ _ h => by simp [tr] at h
  | n + 1 => fun sc elt gs scope pos e' h X hN hs G => by
    have h : stepE Γ N (tr Γ N n) sc (.ListComp elt gs scope pos) = some e' := h
    cases gs with
    | nil => simp [stepE] at h
    | cons g gs =>
      cases gs with
      | cons _ _ => simp [stepE] at h
      | nil =>
        obtain ⟨t, it, ifs, m⟩ := g
        by_cases hn : m = 0
        · subst hn
          simp only [stepE] at h
          obtain ⟨elt', tg, src, cnd, e, c⟩ := comp_parts (tr_ok P Γ N k n) hN hs G h
          exact ⟨t, it, ifs, elt', tg, src, cnd, rfl, e, c⟩
        · simp only [stepE, stepC] at h
          rw [if_neg fun q => hn q.1] at h
          cases h
theorem trS_ok (rl : RL P Γ N k r) (rs : RS P Γ N k r) (hN : X.N = N) (hs : X.env.scope = sc) (hk : sc.kind = .function) (hfn : ∀ x, X.fn x = true) (G : Gd P Γ k X) : ∀ (n : Nat) {st : Stmt} {s : S}, trS N r sc n st = some s → SS P k X st s
  | 0, _, _, h => by simp [trS] at h
  | n + 1, st, s, h => by
    have ih : ∀ st s, trS N r sc n st = some s → SS P k X st s := fun st s h => trS_ok rl rs hN hs hk hfn G n h
    have hok : ∀ x, okL sc x = true → Loc X.env.scope x ∧ (X.fn x = true ∨ X.env.scope.names.lookup x = some .local) := fun x hx => ⟨okL_loc hx hs, .inl (hfn x)⟩
    unfold trS at h
    split at h
    · rename_i e p
      split at h
      · rename_i hd
        cases h
        cases e <;> (try (simp [isDoc] at hd; done))
        rename_i c j p2
        cases c <;> (try (simp [isDoc] at hd; done))
        exact ss_skip ps_doc
      · split at h
        · cases h
        · rename_i hc
          have hc : isComp e = false := by simpa using hc
          rw [Option.map_eq_some_iff] at h
          obtain ⟨e', h1, rfl⟩ := h
          exact ss_ex (ps_expr (rs.E sc e e' h1 X hN hs G) (swaps_no hc))
    · rename_i x xp e p
      split at h
      · rename_i hx
        obtain ⟨o1, o2⟩ := hok x hx
        simp only [Option.bind_eq_some_iff] at h
        obtain ⟨i, hi, h⟩ := h
        obtain ⟨_, _, h3⟩ := slot_some hi
        have plain : ∀ {e : Expr} {e' : E}, trV r sc e = some e' → swapsWith e (some (.Name x xp)) p.line X.env = pure false → SS P k X (.Assign [.Name x xp] e p) (.asg i e') := fun {e e'} h hw =>
          ss_asg (ps_set G.nd (by rw [hN]; exact h3) o1 (trV_ok rs hN hs G h) hw o2)
        split at h
        · rename_i elt gs scope cp
          split at h
          · rename_i hsw
            rw [Option.map_eq_some_iff] at h
            obtain ⟨e', h1, rfl⟩ := h
            obtain ⟨t, it, ifs, elt', tg, src, cnd, rfl, rfl, c⟩ := rl sc elt gs scope cp e' h1 X hN hs G
            have hloc : X.env.scope.names.lookup x = some .local := by
              unfold swapB at hsw
              rw [Bool.and_eq_true, Bool.and_eq_true] at hsw
              rw [hs]
              simpa using hsw.1.1
            refine ss_asg (ps_imp (ps_setLc G.calm G.nd (by rw [hN]; exact h3) hloc (swap_yes (by rw [hs]; exact hk) (by rw [hs]; exact hsw)) c.hi c.ok c.hg c.ht c.he (folded_ok c.hs)) fun D σ H h => ?_)
            exact tE_comp c.hd c.ho h
          · rename_i hsw
            rw [Option.map_eq_some_iff] at h
            obtain ⟨e', h1, rfl⟩ := h
            refine plain h1 (swap_not (by rw [hs]; exact hk) ?_)
            rw [hs]
            simpa using hsw
        · split at h
          · cases h
          · rename_i hc
            rw [Option.map_eq_some_iff] at h
            obtain ⟨e', h1, rfl⟩ := h
            exact plain h1 (swaps_no (by simpa using hc))
      · cases h
    · rename_i es kk tp e p
      split at h
      · cases h
      · rename_i hc
        have hc : isComp e = false ∧ isTupE e = false := by simpa using hc
        simp only [Option.bind_eq_some_iff] at h
        obtain ⟨tg, h1, h2⟩ := h
        split at h2
        · rename_i is
          rw [Option.map_eq_some_iff] at h2
          obtain ⟨e', h3, rfl⟩ := h2
          exact ss_unp (ps_asg (trV_ok rs hN hs G h3) (trG_ok hN hs G.calm G.nd hok h1) (swaps_tup hc.1) (stores_no hc.2))
        · cases h2
    · rename_i x xp lo hi p2 sp e p
      split at h
      · cases h
      · rename_i hc
        have hc : isComp e = false := by simpa using hc
        simp only [Option.bind_eq_some_iff, Option.map_eq_some_iff] at h
        obtain ⟨i, h1, l, h2, u, h3, e', h4, rfl⟩ := h
        exact ss_sls (trV_ok rs hN hs G h4) (pe_slot hN hs h1) (trEnd_ok rs hN hs G h2) (trEnd_ok rs hN hs G h3) (swaps_tup hc) rfl
    · rename_i x xp kx sp e p hns
      split at h
      · cases h
      · rename_i hc
        have hc : isComp e = false ∧ isSlice kx = false := by simpa using hc
        simp only [Option.bind_eq_some_iff, Option.map_eq_some_iff] at h
        obtain ⟨i, h1, k', h2, e', h3, rfl⟩ := h
        refine ss_st (trW_ok rs hN hs G h3) (pg_sub (pe_slot hN hs h1) (rs.E sc kx k' h2 X hN hs G) (set_st (hu65 G)) ?_) (swaps_tup hc.1) rfl
        intro v
        cases kx <;> first | rfl | (simp [isSlice] at hc)
    · rename_i x xp o e p
      split at h
      · rename_i hx
        obtain ⟨o1, o2⟩ := hok x hx
        simp only [Option.bind_eq_some_iff, Option.map_eq_some_iff] at h
        obtain ⟨i, h1, o', h2, e', h3, rfl⟩ := h
        obtain ⟨_, _, h4⟩ := slot_some h1
        exact ss_aug (ps_aug G.nd (by rw [hN]; exact h4) o1 (rs.E sc e e' h3 X hN hs G) (augOf_ok h2) o2)
      · cases h
    · rename_i e p
      rw [Option.map_eq_some_iff] at h
      obtain ⟨e', h1, rfl⟩ := h
      exact ss_ret (retE_ok rs hN hs G h1)
    · cases h
      refine ps_imp ps_retN fun D σ H h => ?_
      obtain ⟨F, s, fps, R, h⟩ := h
      exact h .non σ H F fps [] R .refl .refl ⟨.non, fun a ha => nomatch ha⟩
    · rename_i c a b p
      simp only [Option.bind_eq_some_iff, Option.map_eq_some_iff] at h
      obtain ⟨c', h1, a', h2, b', h3, rfl⟩ := h
      exact ss_if (rs.T sc c c' h1 X hN hs G) (trB_ok (ih) h2) (trB_ok (ih) h3)
    · rename_i c a p
      simp only [Option.bind_eq_some_iff, Option.map_eq_some_iff] at h
      obtain ⟨c', h1, a', h2, rfl⟩ := h
      exact ss_while G.hp (rs.T sc c c' h1 X hN hs G) (trB_ok (ih) h2)
    · rename_i t it a p
      simp only [Option.bind_eq_some_iff] at h
      obtain ⟨src, h1, tg, h2, a', h3, h4⟩ := h
      split at h4
      · rename_i hd
        cases h4
        obtain ⟨q1, q2⟩ := trR_ok (tg := t) rs hN hs G h1
        exact ss_for G.hp G.calm q1 (trG_ok hN hs G.calm G.nd hok h2) (trB_ok (ih) h3) (folded_ok q2) hd
      · cases h4
    · cases h; exact ss_brk
    · cases h; exact ss_cnt
    · cases h; exact ss_skip ps_pass
    · cases h; exact ps_imp ps_never fun D σ H h => by
        obtain ⟨F, s, fps, R, h⟩ := h
        exact h.elim
    · cases h
end
end Z

set_option Elab.async false
set_option linter.all false
set_option maxRecDepth 100000
namespace Z
open PySem PySem.Spec PyProof.Rows L2

/-! ### defs -/
theorem mask_get : ∀ {ks : List Bool} {j i : Nat} {s : Env} {d : D}, get (mask ks j s) i = some d → ks[i]? = some true ∧ get s (j + i) = some d
  | [], j, i, s, d, h => by
    unfold get at h
    simp [mask] at h
  | true :: ks, j, 0, s, d, h => ⟨rfl, h⟩
  | false :: ks, j, 0, s, d, h => by
    unfold get at h
    simp [mask] at h
  | true :: ks, j, i + 1, s, d, h => by
    have h : get (mask ks (j + 1) s) i = some d := h
    obtain ⟨a, b⟩ := mask_get h
    exact ⟨a, by rw [← b]; congr 1; omega⟩
  | false :: ks, j, i + 1, s, d, h => by
    have h : get (mask ks (j + 1) s) i = some d := h
    obtain ⟨a, b⟩ := mask_get h
    exact ⟨a, by rw [← b]; congr 1; omega⟩
theorem mask_none : ∀ {ks : List Bool} {j i : Nat} {s : Env}, get (mask ks j s) i = none → ks[i]? = some true → get s (j + i) = none
  | [], j, i, s, h, e => by simp at e
  | true :: ks, j, 0, s, h, e => h
  | false :: ks, j, 0, s, h, e => by simp at e
  | true :: ks, j, i + 1, s, h, e => by
    have h : get (mask ks (j + 1) s) i = none := h
    have q := mask_none h e
    rw [← q]; congr 1; omega
  | false :: ks, j, i + 1, s, h, e => by
    have h : get (mask ks (j + 1) s) i = none := h
    have q := mask_none h e
    rw [← q]; congr 1; omega
theorem mask_len : ∀ {ks : List Bool} {j : Nat} {s : Env}, (mask ks j s).length = ks.length
  | [], _, _ => rfl
  | true :: ks, j, s => by simp [mask, mask_len (ks := ks)]
  | false :: ks, j, s => by simp [mask, mask_len (ks := ks)]
/-- no slot handed in and out is bound anew -/
def noAs (ks : List Bool) (as : List Nat) : Bool := as.all fun i => !(ks[i]? == some true)
theorem noAs_not {ks : List Bool} {as : List Nat} (h : noAs ks as = true) {i : Nat} (hi : ks[i]? = some true) : i ∉ as := fun z => by
  have q := List.all_eq_true.mp h i z
  rw [hi] at q
  simp at q
section
variable {K : Kw} {F H F' H' : Hp} {σ' : L2.St} {s' : Env} {fps fps' : Fps} {ds : List D} {vs : List V} {N : List Str} {ks : List Bool} {mv as : List Nat} {v : V} {d : D} {fp : List Addr}
theorem get_pad (ds : List D) (n i : Nat) : get (ds.map some ++ List.replicate n none) i = get (ds.map some) i := by
  unfold get
  rw [List.getD_eq_getElem?_getD, List.getD_eq_getElem?_getD]
  by_cases hi : i < ds.length
  · rw [List.getElem?_append_left (by simpa using hi)]
  · rw [List.getElem?_append_right (by simpa using hi), List.getElem?_eq_none (l := ds.map some) (by simpa using hi), List.getElem?_replicate]
    split <;> rfl
theorem rel_start (R : Rel K F H (vs.map some) (ds.map some) fps) (n : Nat) : Rel K F H (L2.start N vs) (ds.map some ++ List.replicate (N.length - ds.length) none) fps := by
  have hl : ds.length = vs.length := by simpa using R.len
  refine ⟨R.sub, ?_, fun i d e => ?_, fun i e => ?_, R.dis⟩
  · unfold L2.start
    simp [hl]
  · rw [get_pad] at e
    obtain ⟨v, h1, h2⟩ := R.rep i d e
    refine ⟨v, ?_, h2⟩
    have hi : i < (vs.map some).length := (List.getElem?_eq_some_iff.mp h1).1
    unfold L2.start
    rw [List.getElem?_append_left hi]
    exact h1
  · rw [get_pad] at e
    exact R.nil i e
def mfps (ks : List Bool) (fps' : Fps) : Fps := fun j => if ks[j]? = some true then fps' j else []
theorem rel_end (hl : ks.length = vs.length) (hn : noAs ks as = true) (R' : Rel K F' H' σ' s' fps') (k : Kp as (L2.start N vs) σ') : Rel K F' H' (vs.map some) (mask ks 0 s') (mfps ks fps') := by
  refine ⟨R'.sub, by rw [mask_len, hl, List.length_map], fun i d e => ?_, fun i e => ?_, fun i j hij a ha => ?_⟩
  · obtain ⟨h1, h2⟩ := mask_get e
    rw [Nat.zero_add] at h2
    obtain ⟨v, h3, h4⟩ := R'.rep i d h2
    refine ⟨v, ?_, by unfold mfps; rw [if_pos h1]; exact h4⟩
    rw [k i (noAs_not hn h1)] at h3
    have hi : i < (vs.map some).length := by
      rw [List.length_map, ← hl]
      exact (List.getElem?_eq_some_iff.mp h1).1
    unfold L2.start at h3
    rw [List.getElem?_append_left hi] at h3
    exact h3
  · unfold mfps
    by_cases q : ks[i]? = some true
    · rw [if_pos q]
      have z := mask_none e q
      rw [Nat.zero_add] at z
      exact R'.nil i z
    · rw [if_neg q]
  · unfold mfps at ha ⊢
    by_cases q : ks[i]? = some true
    · rw [if_pos q] at ha
      by_cases q2 : ks[j]? = some true
      · rw [if_pos q2]
        exact R'.dis i j hij a ha
      · rw [if_neg q2]
        exact fun z => nomatch z
    · rw [if_neg q] at ha
      cases ha
theorem nil_past (R : Rel K F H (vs.map some) (ds.map some) fps) {j : Nat} (hj : ¬ j < vs.length) : fps j = [] := by
  refine R.nil j ?_
  unfold get
  have hl : ds.length = vs.length := by simpa using R.len
  rw [List.getD_eq_getElem?_getD, List.getElem?_eq_none (by simp; omega)]
  rfl
theorem in_past (R : Rel K F H (vs.map some) (ds.map some) fps) {j : Nat} {a : Addr} (ha : a ∈ fps j) : j < vs.length := by
  by_cases hj : j < vs.length
  · exact hj
  · rw [nil_past R hj] at ha
    cases ha
theorem stp_end {env : Env} (hl : ks.length = vs.length) (R : Rel K F H (vs.map some) (ds.map some) fps) (st : Stp mv F H env fps F' H' s' fps') : Stp (List.range ks.length) F H (ds.map some) fps F' H' (mask ks 0 s') (mfps ks fps') := by
  have inn : ∀ {j : Nat} {a : Addr}, a ∈ fps j → j ∈ List.range ks.length := fun ha => List.mem_range.mpr (by rw [hl]; exact in_past R ha)
  have hdl : ds.length = vs.length := by simpa using R.len
  refine ⟨st.f, fun a o e k => st.h a o e fun j _ z => k j (inn z) z, fun a e => ?_, fun j hj a ha => ?_, fun j hj => ?_, st.d⟩
  · rcases st.nf a e with q | q | ⟨j, _, q⟩
    · exact .inl q
    · exact .inr (.inl q)
    · exact .inr (.inr ⟨j, inn q, q⟩)
  · unfold mfps at ha
    by_cases q : ks[j]? = some true
    · rw [if_pos q] at ha
      rcases st.back ha with q | ⟨i, _, q⟩ | ⟨_, q⟩
      · exact .inl q
      · exact .inr ⟨i, inn q, q⟩
      · exact .inr ⟨j, hj, q⟩
    · rw [if_neg q] at ha
      cases ha
  · have hj : ¬ j < ks.length := fun z => hj (List.mem_range.mpr z)
    have e1 : ks[j]? = none := List.getElem?_eq_none (by omega)
    constructor
    · unfold get
      rw [List.getD_eq_getElem?_getD, List.getD_eq_getElem?_getD, List.getElem?_eq_none (by rw [mask_len]; omega), List.getElem?_eq_none (by rw [List.length_map]; omega)]
    · unfold mfps
      rw [e1, if_neg (by simp), nil_past R (by omega)]
theorem res_end (hl : ks.length = vs.length) (R : Rel K F H (vs.map some) (ds.map some) fps) (r : Res K mv [] H fps F' H' fps' v d fp) : Res K (List.range ks.length) [] H fps F' H' (mfps ks fps') v d fp := ⟨r.rep, fun a ha => by
  rcases r.fr a ha with ⟨j, hj, _⟩ | ⟨q, w⟩
  · cases hj
  · refine .inr ⟨fun j z => ?_, ?_⟩
    · unfold mfps at z
      by_cases q2 : ks[j]? = some true
      · rw [if_pos q2] at z
        exact q j z
      · rw [if_neg q2] at z
        cases z
    · rcases w with w | ⟨j, _, w⟩
      · exact .inl w
      · exact .inr ⟨j, List.mem_range.mpr (by rw [hl]; exact in_past R w), w⟩⟩
end
/-- the table has f at i -/
class Has (P : Nat → Option Fn) (i : Nat) (f : Fn) : Prop where
  eq : P i = some f
/-- what the globals say -/
structure Wd (P : Nat → Option Fn) (Γ : Gm) (k : Nat) (p : Program) (w : World) (K : PySem.W.Frag) (mg : Str → Option Value) (base : Heap) : Prop where
  cs : ∀ x d, Γ.consts.lookup x = some d → ∃ u v, mg x = some u ∧ RelV v u ∧ ∀ F H, Rep ⟨K, w⟩ F H v d []
  bl : ∀ x ∈ bnames, mg x = none
  kw : ∀ x f p' q, Γ.kws.lookup x = some (f, p', q) → ∃ a fd, mg x = some (.ref a) ∧ PySem.W.keepIn K (.ref a) = true ∧ KB K fd p' q ∧ FnOk p w K mg base CX0 k a fd [p', q] (spF ⟨K, w⟩ 2 (run P k f))
  fs : ∀ x f ks, Γ.funs.lookup x = some (f, ks) → ∃ a fd ps, mg x = some (.ref a) ∧ PySem.W.keepIn K (.ref a) = true ∧ Binds K fd ps [] ∧ ps.length = ks.length ∧ FnOk p w K mg base CX0 k a fd ps (spF ⟨K, w⟩ ks.length (run P k f))
/-- a def of the text: its statement, names, parameters, kinds -/
structure Ent where
  ix : Nat
  x : Str
  st : Stmt
  N : List Str
  ps : List Str
  ks : List Bool
  body : S
structure EntOk (Γ : Gm) (e : Ent) : Prop where
  sc : FnScope e.N e.ps (defScope e.st)
  tr : trB (trS e.N (tr Γ e.N 40) (defScope e.st) 40) (defBody e.st) = some e.body
  ln : e.ks.length = e.ps.length
  na : noAs e.ks (asS e.body) = true
section
variable {P : Nat → Option Fn} {Γ : Gm} {k : Nat} {p : Program} {w : World} {K : PySem.W.Frag} {mg : Str → Option Value} {base : Heap}
theorem fn_zero {f : Nat} {a : Addr} {fd : FuncData} {ps : List Str} {ks : List Bool} (hl : ks.length = ps.length) : FnOk p w K mg base CX0 0 a fd ps (spF ⟨K, w⟩ ks.length (run P 0 f)) := by
  refine ⟨fun vs H Q E h => h.1.trans hl, fun A outer s H args us vs Q E hr e0 hb hv h => ?_⟩
  obtain ⟨_, F, ds, fps, R, h⟩ := h
  exact h.elim
theorem fn_succ {e : Ent} {fi : Nat} {a : Addr} {fd : FuncData} (W : Wd P Γ k p w K mg base) (eo : EntOk Γ e) (hP : P fi = some ⟨e.ks, e.N.length, e.body⟩) (F : Fun K e.x e.x e.st a fd) :
    FnOk p w K mg base CX0 (k + 1) a fd e.ps (spF ⟨K, w⟩ e.ks.length (run P (k + 1) fi)) := by
  refine F.ok eo.sc (fun vs H Q E h => h.1.trans eo.ln) (fun cdv A outer s H vs Q E hr h => ?_)
  obtain ⟨hlen, F0, ds, fps, R, h⟩ := h
  have hdl : ds.length = vs.length := by simpa using R.len
  have G : Gd P Γ k (cxOf CX0 p w K mg base e.N e.x (defScope e.st) a cdv A outer s H E).nox := ⟨rfl, eo.sc.nd, PassesOwn.never, hr, W.cs, W.bl, W.fs, W.kw⟩
  have B := trB_ok (fun st s' hs' => trS_ok (X := (cxOf CX0 p w K mg base e.N e.x (defScope e.st) a cdv A outer s H E).nox) (sc := defScope e.st) (tr_rl P Γ e.N k 40) (tr_ok P Γ e.N k 40) rfl rfl eo.sc.kind (fun _ => rfl) G 40 hs') eo.tr
  refine ⟨_, B, F0, _, fps, rel_start (N := e.N) R 0, ?_⟩
  unfold run at h
  rw [hP] at h
  try dsimp only at h
  rw [if_pos (by rw [hdl]; exact hlen)] at h
  have hl : e.ks.length = vs.length := hlen.symm
  cases eo2 : exec (run P k) e.body (ds.map some ++ List.replicate (e.N.length - ds.length) none) with
  | nxt s' =>
    rw [eo2] at h
    exact fun σ' H' F' fps' R' st k => h .non H' F' _ [] (rel_end hl eo.na R' k) (stp_end hl R st) ⟨.non, fun a ha => nomatch ha⟩
  | ret d s' =>
    rw [eo2] at h
    exact fun v σ' H' F' fps' fp R' st k r => h v H' F' _ fp (rel_end hl eo.na R' k) (stp_end hl R st) (res_end hl R r)
  | cnt s' => rw [eo2] at h; exact h.elim
  | brk s' => rw [eo2] at h; exact h.elim
  | exc x s' => rw [eo2] at h; exact h.elim
  | bad => rw [eo2] at h; exact h.elim
/-- a table of defs -/
def tabP (T : List Ent) : Nat → Option Fn := fun i => (T.find? fun e => e.ix == i).map fun e => ⟨e.ks, e.N.length, e.body⟩
def tabF : List Ent → List (Str × Nat × List Bool)
  | [] => []
  | e :: T => (e.x, e.ix, e.ks) :: tabF T
theorem tabF_some : ∀ {T : List Ent} {x : Str} {f : Nat} {ks : List Bool}, (tabF T).lookup x = some (f, ks) → ∃ e ∈ T, e.ix = f ∧ e.x = x ∧ e.ks = ks
  | [], x, f, ks, h => by simp [tabF] at h
  | e :: T, x, f, ks, h => by
    unfold tabF at h
    rw [List.lookup_cons] at h
    cases q : x == e.x with
    | true =>
      rw [q] at h
      cases h
      exact ⟨e, List.mem_cons_self, rfl, (beq_iff_eq.mp q).symm, rfl⟩
    | false =>
      rw [q] at h
      obtain ⟨e2, h1, h2⟩ := tabF_some h
      exact ⟨e2, List.mem_cons_of_mem _ h1, h2⟩
/-- those with two parameters, none of them handed in and out -/
def kwF : List Ent → List (Str × Nat × Str × Str)
  | [] => []
  | e :: T => match e.ps, e.ks with
    | [p, q], [false, false] => (e.x, e.ix, p, q) :: kwF T
    | _, _ => kwF T
theorem kwF_some : ∀ {T : List Ent} {x : Str} {f : Nat} {p q : Str}, (kwF T).lookup x = some (f, p, q) → ∃ e ∈ T, e.ix = f ∧ e.x = x ∧ e.ps = [p, q] ∧ e.ks = [false, false]
  | [], x, f, p, q, h => by simp [kwF] at h
  | e :: T, x, f, p, q, h => by
    unfold kwF at h
    split at h
    · rename_i p1 q1 h1 h2
      rw [List.lookup_cons] at h
      cases z : x == e.x with
      | true =>
        rw [z] at h
        cases h
        exact ⟨e, List.mem_cons_self, rfl, (beq_iff_eq.mp z).symm, h1, h2⟩
      | false =>
        rw [z] at h
        obtain ⟨e2, g1, g2⟩ := kwF_some h
        exact ⟨e2, List.mem_cons_of_mem _ g1, g2⟩
    · obtain ⟨e2, g1, g2⟩ := kwF_some h
      exact ⟨e2, List.mem_cons_of_mem _ g1, g2⟩
structure EntAt (K : PySem.W.Frag) (mg : Str → Option Value) (e : Ent) : Prop where
  ex : ∃ a fd, Fun K e.x e.x e.st a fd ∧ mg e.x = some (.ref a) ∧ Binds K fd e.ps [] ∧ KBs K fd e.ps
theorem all_fns {T : List Ent} {cs : List (Str × D)} (hc : ∀ x d, cs.lookup x = some d → ∃ u v, mg x = some u ∧ RelV v u ∧ ∀ F H, Rep ⟨K, w⟩ F H v d []) (hb : ∀ x ∈ bnames, mg x = none)
    (ho : ∀ e ∈ T, EntOk ⟨cs, tabF T, kwF T⟩ e) (hP : ∀ e ∈ T, tabP T e.ix = some ⟨e.ks, e.N.length, e.body⟩) (ha : ∀ e ∈ T, EntAt K mg e) : ∀ k : Nat, Wd (tabP T) ⟨cs, tabF T, kwF T⟩ k p w K mg base
  | 0 => ⟨hc, hb, fun x f p' q h => by
      obtain ⟨e, h2, h1, h3, h4, h5⟩ := kwF_some h
      obtain ⟨a, fd, F, hm, b, kb⟩ := (ha e h2).ex
      subst h3 h1
      have fz := fn_zero (p := p) (w := w) (K := K) (mg := mg) (base := base) (P := tabP T) (f := e.ix) (a := a) (fd := fd) (ho e h2).ln
      rw [h4, h5] at fz
      exact ⟨a, fd, hm, F.kp, kb _ _ h4, fz⟩, fun x f ks h => by
      obtain ⟨e, h2, h1, h3, h4⟩ := tabF_some h
      obtain ⟨a, fd, F, hm, b, _⟩ := (ha e h2).ex
      subst h3 h4
      exact ⟨a, fd, e.ps, hm, F.kp, b, (ho e h2).ln.symm, fn_zero (ho e h2).ln⟩⟩
  | k + 1 => ⟨hc, hb, fun x f p' q h => by
      have W := all_fns hc hb ho hP ha k
      obtain ⟨e, h2, h1, h3, h4, h5⟩ := kwF_some h
      obtain ⟨a, fd, F, hm, b, kb⟩ := (ha e h2).ex
      subst h3 h1
      have fz := fn_succ W (ho e h2) (hP e h2) F
      rw [h4, h5] at fz
      exact ⟨a, fd, hm, F.kp, kb _ _ h4, fz⟩, fun x f ks h => by
      have W := all_fns hc hb ho hP ha k
      obtain ⟨e, h2, h1, h3, h4⟩ := tabF_some h
      obtain ⟨a, fd, F, hm, b, _⟩ := (ha e h2).ex
      subst h3 h4 h1
      exact ⟨a, fd, e.ps, hm, F.kp, b, (ho e h2).ln.symm, fn_succ W (ho e h2) (hP e h2) F⟩⟩
/-- one def of the table -/
theorem one_fn {T : List Ent} {cs : List (Str × D)} {e : Ent} {a : Addr} {fd : FuncData} (W : Wd (tabP T) ⟨cs, tabF T, kwF T⟩ k p w K mg base) (h : tabP T e.ix = some ⟨e.ks, e.N.length, e.body⟩) (eo : EntOk ⟨cs, tabF T, kwF T⟩ e) (F : Fun K e.x e.x e.st a fd) :
    FnOk p w K mg base CX0 (k + 1) a fd e.ps (spF ⟨K, w⟩ e.ks.length (run (tabP T) (k + 1) e.ix)) := fn_succ W eo h F
end
theorem reps_ints {K : Kw} {F H : Hp} : ∀ ns : List Int, Reps K F H (ns.map V.int) (ns.map D.int) []
  | [] => .nil
  | n :: ns => Reps.cons0 (.int n) (reps_ints ns)
/-- the law's def: of the script a frozen list -/
def spLaw (K : PySem.W.Frag) (n : Nat) : Sp := fun vs H Q _ => ∃ (a : Addr) (ns : List Int), vs = [.ref a] ∧ SqL K H a (ns.map V.int) ∧ ns.length ≤ n ∧ ∀ H', Q (.bl true) H'
theorem law_imp {K : PySem.W.Frag} {w : World} {n : Nat} {g : List D → CR} (h : ∀ ns : List Int, ns.length ≤ n → ∃ io, g [.lst false (ns.map .int)] = .ok (.bl true) io) : ∀ vs H Q E, spLaw K n vs H Q E → spF ⟨K, w⟩ 1 g vs H Q E := fun vs H Q E hs => by
  obtain ⟨a, ns, rfl, hS, hl, q⟩ := hs
  obtain ⟨io, hg⟩ := h ns hl
  refine ⟨rfl, H, [.lst false (ns.map .int)], fun _ => [], ⟨fun _ _ e => e, rfl, fun i d e => ?_, fun _ _ => rfl, fun _ _ _ a z => nomatch z⟩, ?_⟩
  · cases i with
    | zero =>
      cases e
      refine ⟨.ref a, rfl, ?_⟩
      exact .lstF hS (reps_ints ns)
    | succ i => simp [get] at e
  · rw [hg]
    intro v H' F' fps' fp R' st r
    have e : v = .bl true := by
      cases r.rep
      rfl
    subst e
    exact q H'
/-- a tuple that the text's top has made -/
theorem tpK {K : Kw} {F : Hp} {a : Addr} {n : Nat} {e : Array (Option Value)} {us : Array Value} {vs : List V} (h : K.k.lookup a = some ⟨.type "tuple", none, .seq us n, e⟩) (hz : us.size ≤ sizeLine) (r : Vals vs us.toList) : TP K F a vs := ⟨.inr ⟨_, us, n, h, rfl, rfl, hz, r⟩, _, .inl h, rfl, rfl⟩
end Z

set_option Elab.async false
set_option linter.all false
set_option maxRecDepth 100000
/-! What a run gives, told backwards. -/
namespace Z
def R.Ok {α : Type} (r : R α) (Q : α → Env → Prop) : Prop := match r with
  | .ok a s => Q a s
  | _ => False
def O.Ok (o : O) (nx : Env → Prop) (rt : D → Env → Prop) (bk ct : Env → Prop) : Prop := match o with
  | .nxt s => nx s
  | .ret d s => rt d s
  | .brk s => bk s
  | .cnt s => ct s
  | _ => False
def CR.Ok (r : CR) (Q : D → Env → Prop) : Prop := match r with
  | .ok d io => Q d io
  | _ => False
section
variable {α β : Type} {Q Q' : α → Env → Prop} {a : α} {s : Env} {nx nx' bk bk' ct ct' : Env → Prop} {rt rt' : D → Env → Prop} {C : Nat → List D → CR} {q q' : D → Env → Prop} {ql : List D → Env → Prop}
theorem R.Ok.mono {r : R α} (h : r.Ok Q) (m : ∀ a s, Q a s → Q' a s) : r.Ok Q' := by
  cases r with
  | ok a s => exact m a s h
  | exc x s => exact h
  | bad => exact h
theorem CR.Ok.mono {r : CR} (h : r.Ok q) (m : ∀ a s, q a s → q' a s) : r.Ok q' := by
  cases r with
  | ok a s => exact m a s h
  | exc x s => exact h
  | bad => exact h
theorem O.Ok.mono {o : O} (h : o.Ok nx rt bk ct) (m1 : ∀ s, nx s → nx' s) (m2 : ∀ d s, rt d s → rt' d s) (m3 : ∀ s, bk s → bk' s) (m4 : ∀ s, ct s → ct' s) : o.Ok nx' rt' bk' ct' := by
  cases o with
  | nxt s => exact m1 s h
  | ret d s => exact m2 d s h
  | brk s => exact m3 s h
  | cnt s => exact m4 s h
  | exc x s => exact h
  | bad => exact h
@[simp] theorem rok_ok : (R.ok a s).Ok Q = Q a s := rfl
@[simp] theorem rok_bad : (R.bad : R α).Ok Q = False := rfl
@[simp] theorem rok_bind {r : R α} {f : α → Env → R β} {Q : β → Env → Prop} : (r.bind f).Ok Q = r.Ok fun a s => (f a s).Ok Q := by cases r <;> rfl
@[simp] theorem rok_O {r : R α} {f : α → Env → O} : (r.O f).Ok nx rt bk ct = r.Ok fun a s => (f a s).Ok nx rt bk ct := by cases r <;> rfl
@[simp] theorem rok_ite {c : Prop} [Decidable c] {x y : R α} : (if c then x else y).Ok Q = ((c → x.Ok Q) ∧ (¬ c → y.Ok Q)) := by by_cases h : c <;> simp [h]
@[simp] theorem rok_of {o : Option α} : (R.of o s).Ok Q = ∃ a, o = some a ∧ Q a s := by cases o <;> simp
@[simp] theorem ook_nxt : (O.nxt s).Ok nx rt bk ct = nx s := rfl
@[simp] theorem ook_ret {d : D} : (O.ret d s).Ok nx rt bk ct = rt d s := rfl
@[simp] theorem ook_brk : (O.brk s).Ok nx rt bk ct = bk s := rfl
@[simp] theorem ook_cnt : (O.cnt s).Ok nx rt bk ct = ct s := rfl
@[simp] theorem ook_bad : O.bad.Ok nx rt bk ct = False := rfl
@[simp] theorem cok_fin {ks : List Bool} {o : O} : (fin ks o).Ok q = o.Ok (fun s => q .non (mask ks 0 s)) (fun d s => q d (mask ks 0 s)) (fun _ => False) (fun _ => False) := by cases o <;> rfl
theorem cok_run {P : Nat → Option Fn} {k f : Nat} {ds : List D} {fn : Fn} (h : P f = some fn) (hl : ds.length = fn.ks.length)
    (g : (exec (run P k) fn.body (ds.map some ++ List.replicate (fn.n - ds.length) none)).Ok (fun s => q .non (mask fn.ks 0 s)) (fun d s => q d (mask fn.ks 0 s)) (fun _ => False) (fun _ => False)) : (run P (k + 1) f ds).Ok q := by
  unfold run
  rw [h]
  simp only [if_pos hl, cok_fin]
  exact g
/-! state -/
@[simp] theorem get_0 {o : Option D} {s : Env} : get (o :: s) 0 = o := rfl
@[simp] theorem get_1 {a o : Option D} {s : Env} : get (a :: o :: s) 1 = o := rfl
@[simp] theorem get_s {o : Option D} {s : Env} {i : Nat} : get (o :: s) (i + 1) = get s i := rfl
@[simp] theorem mask_n {j : Nat} : mask [] j s = [] := rfl
@[simp] theorem mask_t {ks : List Bool} {j : Nat} : mask (true :: ks) j s = get s j :: mask ks (j + 1) s := rfl
@[simp] theorem mask_f {ks : List Bool} {j : Nat} : mask (false :: ks) j s = none :: mask ks (j + 1) s := rfl
@[simp] theorem wipe_n : wipe s [] = s := rfl
@[simp] theorem wipe_c {i : Nat} {is : List Nat} : wipe s (i :: is) = (wipe s is).set i none := rfl
@[simp] theorem restore_n {t : Env} : restore t s [] = s := rfl
@[simp] theorem restore_c {t : Env} {i : Nat} {is : List Nat} : restore t s (i :: is) = (restore t s is).set i (get t i) := rfl
/-! expressions -/
@[simp] theorem w_c {d : D} : (ev C (.c d) s).Ok q = q d s := rfl
@[simp] theorem w_v {i : Nat} : (ev C (.v i) s).Ok q = ∃ d, get s i = some d ∧ q d s := by simp [ev]
@[simp] theorem w_fr {i : Nat} : (ev C (.fr i) s).Ok q = ∃ d, get s i = some d ∧ q d.frz (s.set i (some d.frz)) := by
  simp only [ev]
  cases get s i <;> simp
@[simp] theorem w_mov {i : Nat} : (ev C (.mov i) s).Ok q = ∃ d, get s i = some d ∧ q d (s.set i none) := by
  simp only [ev]
  cases get s i <;> simp
@[simp] theorem w_val {e : E} : (ev C (.val e) s).Ok q = (ev C e s).Ok fun d s => d.own = false ∧ q d s := by
  simp only [ev, rok_bind, rok_ite, rok_bad, rok_ok]
  congr 1
  funext d s
  cases d.own <;> simp
@[simp] theorem w_fz {e : E} : (ev C (.fz e) s).Ok q = (ev C e s).Ok fun d s => q d.frz s := by simp [ev]
@[simp] theorem w_un {u : U1} {e : E} : (ev C (.un u e) s).Ok q = (ev C e s).Ok fun d s => ∃ z, un1 u d = some z ∧ q z s := by simp [ev]
@[simp] theorem w_opf {o : O2} {a b : E} : (ev C (.op o false a b) s).Ok q = (ev C a s).Ok fun x s => (ev C b s).Ok fun y s => ∃ z, op2 o x y = some z ∧ q z s := by simp [ev]
@[simp] theorem w_opt {o : O2} {a b : E} : (ev C (.op o true a b) s).Ok q = (ev C a s).Ok fun x s => (ev C b s).Ok fun y s => x.own = false ∧ ∃ z, op2 o x y = some z ∧ q z s := by
  simp only [ev, rok_bind, rok_ite, rok_bad, rok_ok, rok_of, Bool.true_and]
  congr 1
  funext d s
  congr 1
  funext d2 s2
  cases d.own <;> simp
@[simp] theorem w_slcf {m n : Bool} {a l h : E} : (ev C (.slc false m n a l h) s).Ok q = (ev C a s).Ok fun x s => (ev C l s).Ok fun y s => (ev C h s).Ok fun z s => ∃ w, slice3 m n x y z = some w ∧ q w s := by simp [ev]
@[simp] theorem w_slct {m n : Bool} {a l h : E} : (ev C (.slc true m n a l h) s).Ok q = (ev C a s).Ok fun x s => (ev C l s).Ok fun y s => (ev C h s).Ok fun z s => x.own = false ∧ ∃ w, slice3 m n x y z = some w ∧ q w s := by
  simp only [ev, rok_bind, rok_ite, rok_bad, rok_ok, rok_of, Bool.true_and]
  congr 1; funext d s; congr 1; funext d2 s2; congr 1; funext d3 s3
  cases d.own <;> simp
end
/-- a truth decides -/
def tst (x : D) (A B : Prop) : Prop := match x with
  | .bl b => (b = true → A) ∧ (b = false → B)
  | _ => False
@[simp] theorem tst_bl {b : Bool} {A B : Prop} : tst (.bl b) A B = ((b = true → A) ∧ (b = false → B)) := rfl
theorem tst_iff {x : D} {A B : Prop} : tst x A B = ∃ b, x = .bl b ∧ (b = true → A) ∧ (b = false → B) := by
  cases x <;> simp [tst]
section
variable {α β : Type} {Q Q' : α → Env → Prop} {a : α} {s : Env} {nx nx' bk bk' ct ct' : Env → Prop} {rt rt' : D → Env → Prop} {C : Nat → List D → CR} {q q' : D → Env → Prop} {ql : List D → Env → Prop}
theorem asB_cases {x : D} {f g : R α} : (match asB x with | some true => f | some false => g | none => .bad : R α).Ok Q = tst x (f.Ok Q) (g.Ok Q) := by
  rw [tst_iff]
  cases x with
  | bl b => cases b <;> simp [asB]
  | _ => simp [asB]
theorem asB_casesO {x : D} {f g : O} : (match asB x with | some true => f | some false => g | none => .bad : O).Ok nx rt bk ct = tst x (f.Ok nx rt bk ct) (g.Ok nx rt bk ct) := by
  rw [tst_iff]
  cases x with
  | bl b => cases b <;> simp [asB]
  | _ => simp [asB]
@[simp] theorem w_and {a b : E} : (ev C (.and a b) s).Ok q = (ev C a s).Ok fun x s => tst x ((ev C b s).Ok q) (q (.bl false) s) := by
  simp only [ev, rok_bind]
  congr 1; funext x s
  exact asB_cases
@[simp] theorem w_or {a b : E} : (ev C (.or a b) s).Ok q = (ev C a s).Ok fun x s => tst x (q (.bl true) s) ((ev C b s).Ok q) := by
  simp only [ev, rok_bind]
  congr 1; funext x s
  rw [tst_iff]
  cases x with
  | bl b => cases b <;> simp [asB]
  | _ => simp [asB]
@[simp] theorem w_ite {c a b : E} : (ev C (.ite c a b) s).Ok q = (ev C c s).Ok fun x s => tst x ((ev C a s).Ok q) ((ev C b s).Ok q) := by
  simp only [ev, rok_bind]
  congr 1; funext x s
  exact asB_cases
@[simp] theorem w_chain {o p : O2} {a b c : E} : (ev C (.chain o p a b c) s).Ok q = (ev C a s).Ok fun x s => (ev C b s).Ok fun y s => x.own = false ∧ y.own = false ∧ ∃ z, op2 o x y = some z ∧ tst z ((ev C c s).Ok fun w s => ∃ r, op2 p y w = some r ∧ q r s) (q (.bl false) s) := by
  simp only [ev, rok_bind, rok_ite, rok_bad, rok_of]
  congr 1; funext x s; congr 1; funext y s
  cases x.own <;> cases y.own <;> simp
  cases op2 o x y with
  | none => simp
  | some z =>
    cases z with
    | bl b => cases b <;> simp [asB]
    | _ => simp [asB, tst]
@[simp] theorem w_tup {es : EL} : (ev C (.tup es) s).Ok q = (evL C es s).Ok fun ds s => q (.tup ds) s := by simp [ev]
@[simp] theorem w_lst {es : EL} : (ev C (.lst es) s).Ok q = (evL C es s).Ok fun ds s => q (.lst true ds) s := by simp [ev]
@[simp] theorem w_nil : (evL C .nil s).Ok ql = ql [] s := rfl
@[simp] theorem w_cons {e : E} {es : EL} : (evL C (.cons e es) s).Ok ql = (ev C e s).Ok fun d s => (evL C es s).Ok fun ds s => ql (d :: ds) s := by simp [evL]
def fillK : List (Option Nat) → List D → Env → (List D → Env → Prop) → Prop
  | [], [], s, q => q [] s
  | none :: as, d :: ds, s, q => fillK as ds s fun r s => q (d :: r) s
  | some i :: as, _ :: ds, s, q => ∃ d, get s i = some d ∧ fillK as ds (s.set i none) fun r s => q (d :: r) s
  | _, _, _, _ => False
theorem fillK_iff : ∀ {as : List (Option Nat)} {ds : List D} {s : Env} {q : List D → Env → Prop}, (∃ p, fill as ds s = some p ∧ q p.1 p.2) ↔ fillK as ds s q
  | [], [], s, q => by simp [fill, fillK]
  | [], _ :: _, s, q => by simp [fill, fillK]
  | none :: as, [], s, q => by simp [fill, fillK]
  | some i :: as, [], s, q => by simp [fill, fillK]
  | none :: as, d :: ds, s, q => by
    have ih := fillK_iff (as := as) (ds := ds) (s := s) (q := fun r s => q (d :: r) s)
    simp only [fill, fillK, ← ih]
    cases fill as ds s <;> simp
  | some i :: as, d0 :: ds, s, q => by
    simp only [fill, fillK]
    cases get s i with
    | none => simp
    | some d =>
      have ih := fillK_iff (as := as) (ds := ds) (s := s.set i none) (q := fun r s => q (d :: r) s)
      simp only [Option.bind_some, Option.some.injEq, exists_eq_left', ← ih]
      cases fill as ds (s.set i none) <;> simp
@[simp] theorem fillK_n : fillK [] [] s ql = ql [] s := rfl
@[simp] theorem fillK_c {as : List (Option Nat)} {d : D} {ds : List D} : fillK (none :: as) (d :: ds) s ql = fillK as ds s fun r s => ql (d :: r) s := rfl
@[simp] theorem fillK_s {as : List (Option Nat)} {i : Nat} {d : D} {ds : List D} : fillK (some i :: as) (d :: ds) s ql = ∃ d, get s i = some d ∧ fillK as ds (s.set i none) fun r s => ql (d :: r) s := rfl
@[simp] theorem w_call {f : Nat} {as : List (Option Nat)} {es : EL} : (ev C (.call f as es) s).Ok q = (evL C es s).Ok fun ds s => fillK as ds s fun ds s => (C f ds).Ok fun d io => q d (back as io s) := by
  simp only [ev, rok_bind]
  congr 1; funext ds s
  refine propext (Iff.trans ?_ fillK_iff)
  cases fill as ds s with
  | none => simp
  | some p =>
    obtain ⟨a, b⟩ := p
    simp only [Option.some.injEq, exists_eq_left']
    cases C f a <;> simp [CR.Ok, R.Ok]
@[simp] theorem w_mu {m : Mu} {i : Nat} {es : EL} : (ev C (.mu m i es) s).Ok q = ∃ d0, get s i = some d0 ∧ d0.knd = m.k ∧ (evL C es s).Ok fun ds s => ∃ d, get s i = some d ∧ ∃ p, mutate m d ds = some p ∧ q p.1 (s.set i (some p.2)) := by
  simp only [ev]
  cases get s i with
  | none => simp
  | some d0 =>
    simp only [Option.some.injEq, exists_eq_left', rok_ite, rok_bind, rok_bad]
    by_cases hk : d0.knd = m.k
    · simp [hk]
      refine iff_of_eq ?_
      congr 1; funext ds s
      cases get s i with
      | none => simp
      | some d =>
        simp only [Option.some.injEq, exists_eq_left']
        cases mutate m d ds with
        | none => simp
        | some p =>
          obtain ⟨a, b⟩ := p
          simp
          exact ⟨fun h => ⟨a, b, ⟨rfl, rfl⟩, h⟩, fun ⟨_, _, ⟨e1, e2⟩, h⟩ => by subst e1 e2; exact h⟩
    · simp [hk]
@[simp] theorem w_dnew : (ev C .dnew s).Ok q = q (.dct true []) s := by simp [ev]
@[simp] theorem w_orv {a b : E} : (ev C (.orv a b) s).Ok q = (ev C a s).Ok fun x s => ∃ t, truD x = some t ∧ (t = true → q x s) ∧ (t = false → (ev C b s).Ok q) := by
  simp only [ev, rok_bind]
  congr 1; funext x s
  cases truD x with
  | none => simp
  | some t => cases t <;> simp
@[simp] theorem back_n : back [] [] s = s := rfl
@[simp] theorem back_c {as : List (Option Nat)} {o : Option D} {ds : Env} : back (none :: as) (o :: ds) s = back as ds s := rfl
@[simp] theorem back_s {as : List (Option Nat)} {i : Nat} {o : Option D} {ds : Env} : back (some i :: as) (o :: ds) s = (back as ds s).set i o := rfl
/-! statements -/
@[simp] theorem w_skip : (exec C .skip s).Ok nx rt bk ct = nx s := rfl
@[simp] theorem w_brk : (exec C .brk s).Ok nx rt bk ct = bk s := rfl
@[simp] theorem w_cnt : (exec C .cnt s).Ok nx rt bk ct = ct s := rfl
@[simp] theorem w_asg {i : Nat} {e : E} : (exec C (.asg i e) s).Ok nx rt bk ct = (ev C e s).Ok fun d s => nx (s.set i (some d)) := by simp [exec]
@[simp] theorem w_ex {e : E} : (exec C (.ex e) s).Ok nx rt bk ct = (ev C e s).Ok fun d s => nx s := by simp [exec]
@[simp] theorem w_ret {e : E} : (exec C (.ret e) s).Ok nx rt bk ct = (ev C e s).Ok fun d s => rt d s := by simp [exec]
@[simp] theorem w_seq {a b : S} : (exec C (.seq a b) s).Ok nx rt bk ct = (exec C a s).Ok (fun s => (exec C b s).Ok nx rt bk ct) rt bk ct := by
  simp only [exec]
  cases exec C a s <;> rfl
@[simp] theorem w_if {c : E} {a b : S} : (exec C (.ite c a b) s).Ok nx rt bk ct = (ev C c s).Ok fun x s => tst x ((exec C a s).Ok nx rt bk ct) ((exec C b s).Ok nx rt bk ct) := by
  simp only [exec, rok_O]
  congr 1; funext x s
  exact asB_casesO
@[simp] theorem w_unp {is : List Nat} {e : E} : (exec C (.unp is e) s).Ok nx rt bk ct = (ev C e s).Ok fun d s => ∃ s', assignT (.tp is) d s = some s' ∧ nx s' := by
  simp only [exec, rok_O]
  congr 1; funext x s
  cases assignT (.tp is) x s <;> simp
@[simp] theorem w_st {i : Nat} {k e : E} : (exec C (.st i k e) s).Ok nx rt bk ct = (ev C e s).Ok fun y s => (∃ d0, get s i = some d0) ∧ (ev C k s).Ok fun k s => ∃ d, get s i = some d ∧ ∃ d', storeAt d k y = some d' ∧ nx (s.set i (some d')) := by
  simp only [exec, rok_O]
  congr 1; funext y s
  cases get s i with
  | none => simp
  | some d0 =>
    simp only [rok_O, Option.some.injEq, exists_eq', true_and]
    congr 1; funext k s
    cases get s i with
    | none => simp
    | some d =>
      simp only [Option.some.injEq, exists_eq_left']
      cases storeAt d k y <;> simp
@[simp] theorem w_sst {i : Nat} {m n : Bool} {lo hi e : E} : (exec C (.sst i m n lo hi e) s).Ok nx rt bk ct = (ev C e s).Ok fun y s => (∃ d0, get s i = some d0) ∧ (ev C lo s).Ok fun l s => (ev C hi s).Ok fun h s => ∃ d, get s i = some d ∧ ∃ d', storeSl m n d l h y = some d' ∧ nx (s.set i (some d')) := by
  simp only [exec, rok_O]
  congr 1; funext y s
  cases get s i with
  | none => simp
  | some d0 =>
    simp only [rok_O, Option.some.injEq, exists_eq', true_and]
    congr 1; funext l s
    congr 1; funext h s
    cases get s i with
    | none => simp
    | some d =>
      simp only [Option.some.injEq, exists_eq_left']
      cases storeSl m n d l h y <;> simp
@[simp] theorem w_aug {i : Nat} {o : O2} {e : E} : (exec C (.aug i o e) s).Ok nx rt bk ct = ((∃ d0, get s i = some d0) ∧ (ev C e s).Ok fun y s => ∃ x, get s i = some x ∧ ∃ z, aug2 o x y = some z ∧ nx (s.set i (some z))) := by
  simp only [exec]
  cases get s i with
  | none => simp
  | some d0 =>
    simp only [rok_O, Option.some.injEq, exists_eq', true_and]
    congr 1; funext k s
    cases get s i with
    | none => simp
    | some d =>
      simp only [Option.some.injEq, exists_eq_left']
      cases aug2 o d k <;> simp
theorem w_cut {a b : S} (I : Env → Prop) (h1 : (exec C a s).Ok I rt bk ct) (h2 : ∀ s, I s → (exec C b s).Ok nx rt bk ct) : (exec C (.seq a b) s).Ok nx rt bk ct := by
  rw [w_seq]
  exact h1.mono h2 (fun _ _ h => h) (fun _ h => h) (fun _ h => h)
/-! loops -/
theorem w_wh {c : E} {b : S} (I : Nat → Env → Prop) (n : Nat) (hn : n < W) (h0 : I n s)
    (hs : ∀ n s, I n s → (ev C c s).Ok fun x s => tst x (∃ m, n = m + 1 ∧ (exec C b s).Ok (I m) rt nx (I m)) (nx s)) : (exec C (.wh c b) s).Ok nx rt bk ct := by
  simp only [exec]
  have key : ∀ (f n : Nat), n < f → ∀ s, I n s → (wloop (ev C c) (exec C b) f s).Ok nx rt bk ct := by
    intro f
    induction f with
    | zero => intro n hn; omega
    | succ f ih =>
      intro n hn s hi
      have q := hs n s hi
      unfold wloop
      cases hc : ev C c s with
      | exc x s => rw [hc] at q; exact q.elim
      | bad => rw [hc] at q; exact q.elim
      | ok x s1 =>
        rw [hc] at q
        simp only [rok_ok, tst_iff] at q
        obtain ⟨v, rfl, q2', q1⟩ := q
        cases v with
        | false => exact q1 rfl
        | true =>
          obtain ⟨m, rfl, q2⟩ := q2' rfl
          clear q2'
          simp only [asB]
          cases hb : exec C b s1 with
          | nxt s => rw [hb] at q2; exact ih m (by omega) s q2
          | cnt s => rw [hb] at q2; exact ih m (by omega) s q2
          | brk s => rw [hb] at q2; exact q2
          | ret d s => rw [hb] at q2; exact q2
          | exc x s => rw [hb] at q2; exact q2.elim
          | bad => rw [hb] at q2; exact q2.elim
  exact key W n hn s h0
/-- a walk: I of what is still to come -/
theorem w_floop {f : D → Env → O} (I : List D → Env → Prop) : ∀ (xs : List D) (s : Env), I xs s → (∀ x r s, I (x :: r) s → (f x s).Ok (I r) rt nx (I r)) → (∀ s, I [] s → nx s) → (floop f xs s).Ok nx rt bk ct
  | [], s, h0, _, he => he s h0
  | x :: r, s, h0, hs, he => by
    have q := hs x r s h0
    unfold floop
    cases hb : f x s with
    | nxt s => rw [hb] at q; exact w_floop I r s q hs he
    | cnt s => rw [hb] at q; exact w_floop I r s q hs he
    | brk s => rw [hb] at q; exact q
    | ret d s => rw [hb] at q; exact q
    | exc x s => rw [hb] at q; exact q.elim
    | bad => rw [hb] at q; exact q.elim
theorem w_for {tg : T} {src : Sr} {b : S} (I : List D → Env → Prop) (h0 : (evS C src s).Ok fun xs s => I xs s) (hs : ∀ x r s, I (x :: r) s → ∃ s', assignT tg x s = some s' ∧ (exec C b s').Ok (I r) rt nx (I r)) (he : ∀ s, I [] s → nx s) : (exec C (.for tg src b) s).Ok nx rt bk ct := by
  simp only [exec, rok_O]
  refine h0.mono fun xs s h => w_floop I xs s h (fun x r s h => ?_) he
  obtain ⟨s', e, q⟩ := hs x r s h
  rw [e]
  exact q
@[simp] theorem w_nm {i : Nat} {d : D} : assignT (.nm i) d s = some (s.set i (some d)) := rfl
theorem w_compL {f : D → Env → R (Option D)} (I : List D → List D → Env → Prop) : ∀ (xs : List D) (s : Env) (acc : List D), I acc xs s → (∀ acc x r s, I acc (x :: r) s → (f x s).Ok fun o s => I (acc ++ o.toList) r s) → (compL f xs s).Ok fun ys s => I (acc ++ ys) [] s
  | [], s, acc, h0, _ => by
    simp only [compL, rok_ok, List.append_nil]
    exact h0
  | x :: r, s, acc, h0, hs => by
    simp only [compL, rok_bind, rok_ok]
    refine (hs acc x r s h0).mono fun o s h => (w_compL I r s _ h hs).mono fun ys s h => ?_
    rw [← List.append_assoc]
    exact h
/-- a comprehension: I of what is made and what is still to come -/
theorem w_comp {elt : E} {tg : T} {src : Sr} {cnd : E} {own : List Nat} (I : List D → List D → Env → Prop)
    (h0 : (evS C src s).Ok fun xs s1 => xs.length ≤ SL ∧ I [] xs s1 ∧ (∀ acc x r s, I acc (x :: r) s → ∃ s', assignT tg x (wipe s own) = some s' ∧ (ev C cnd s').Ok fun b s => tst b ((ev C elt s).Ok fun y s => I (acc ++ [y]) r s) (I acc r s)) ∧
      ∀ ys s2, I ys [] s2 → q (.lst true ys) (restore s1 s2 own)) : (ev C (.comp elt tg src cnd own) s).Ok q := by
  simp only [ev, rok_bind]
  refine h0.mono fun xs s1 h => ?_
  obtain ⟨hl, hi, hs, he⟩ := h
  rw [if_neg (by omega)]
  simp only [rok_bind, rok_ok]
  refine (w_compL I xs s1 [] hi fun acc x r s h => ?_).mono fun ys s h => he ys s (by simpa using h)
  obtain ⟨s', e, h2⟩ := hs acc x r s h
  rw [e]
  simp only [rok_bind]
  refine h2.mono fun b s h => ?_
  rw [tst_iff] at h
  obtain ⟨v, rfl, h3, h4⟩ := h
  cases v with
  | true =>
    simp only [asB, rok_bind, rok_ok, Option.toList]
    exact h3 rfl
  | false =>
    simp only [asB, rok_ok, Option.toList, List.append_nil]
    exact h4 rfl
theorem compL_F {f : D → Env → R (Option D)} (g : D → Option D) (J : Env → Prop) : ∀ (xs : List D) (s : Env), J s → (∀ x ∈ xs, ∀ s, J s → (f x s).Ok fun o s => J s ∧ o = g x) → (compL f xs s).Ok fun ys s => J s ∧ ys = xs.filterMap g
  | [], s, h, _ => ⟨h, rfl⟩
  | x :: r, s, h, hs => by
    simp only [compL, rok_bind, rok_ok]
    refine (hs x List.mem_cons_self s h).mono fun o s h => (compL_F g J r s h.1 fun y hy => hs y (List.mem_cons_of_mem _ hy)).mono fun ys s h2 => ⟨h2.1, ?_⟩
    rw [h2.2, h.2, List.filterMap_cons]
    cases g x <;> rfl
/-- a comprehension that changes nothing -/
theorem w_compF {elt : E} {tg : T} {src : Sr} {cnd : E} {own : List Nat} (g : D → Option D) (J : Env → Prop)
    (h0 : (evS C src s).Ok fun xs s1 => xs.length ≤ SL ∧ J s1 ∧ (∀ x ∈ xs, ∀ s, J s → ∃ s', assignT tg x (wipe s own) = some s' ∧ (ev C cnd s').Ok fun b s => tst b ((ev C elt s).Ok fun y s => J s ∧ g x = some y) (J s ∧ g x = none)) ∧
      ∀ s2, J s2 → q (.lst true (xs.filterMap g)) (restore s1 s2 own)) : (ev C (.comp elt tg src cnd own) s).Ok q := by
  simp only [ev, rok_bind]
  refine h0.mono fun xs s1 h => ?_
  obtain ⟨hl, hi, hs, he⟩ := h
  rw [if_neg (by omega)]
  simp only [rok_bind, rok_ok]
  refine (compL_F g J xs s1 hi fun x hx s h => ?_).mono fun ys s h => by rw [h.2]; exact he s h.1
  obtain ⟨s', e, h2⟩ := hs x hx s h
  rw [e]
  simp only [rok_bind]
  refine h2.mono fun b s h => ?_
  rw [tst_iff] at h
  obtain ⟨v, rfl, h3, h4⟩ := h
  cases v with
  | true =>
    simp only [asB, rok_bind, rok_ok]
    exact (h3 rfl).mono fun y s h => ⟨h.1, h.2.symm⟩
  | false =>
    simp only [asB, rok_ok]
    exact ⟨(h4 rfl).1, (h4 rfl).2.symm⟩
@[simp] theorem w_of {e : E} {ql : List D → Env → Prop} : (evS C (.of e) s).Ok ql = (ev C e s).Ok fun d s => ∃ xs, iterOf d = some xs ∧ ownL xs = false ∧ ql xs s := by
  simp only [evS, rok_bind]
  congr 1; funext d s
  cases iterOf d with
  | none => simp
  | some xs =>
    simp only [rok_ite, rok_bad, rok_ok, Option.some.injEq, exists_eq_left']
    cases ownL xs <;> simp
@[simp] theorem w_rng3 {es : EL} {ql : List D → Env → Prop} : (evS C (.rng3 es) s).Ok ql = (evL C es s).Ok fun vs s => ∃ xs, rng3L vs = some xs ∧ ql xs s := by
  have e : evS C (.rng3 es) = fRng3 (evL C es) := rfl
  rw [e, fRng3_eq]
  simp
@[simp] theorem w_enum {e : E} {ql : List D → Env → Prop} : (evS C (.enum e) s).Ok ql = (ev C e s).Ok fun d s => (∃ z, d = .str z ∧ z.length ≤ SL ∧ ql (enumD 0 (z.map fun c => .str [c])) s) ∨ ∃ o xs, d = .lst o xs ∧ ownL xs = false ∧ ql (enumD 0 xs) s := by
  simp only [evS, rok_bind]
  congr 1; funext d s
  cases d with
  | str z =>
    by_cases hz : z.length ≤ SL
    · simp [if_pos hz, hz]
    · simp [if_neg hz, hz]
  | lst o xs =>
    refine propext ⟨fun h => .inr ⟨o, xs, rfl, ?_⟩, fun h => ?_⟩
    · have h : (if ownL xs = true then (R.bad : R (List D)) else R.ok (enumD 0 xs) s).Ok ql := h
      by_cases ho : ownL xs = true
      · rw [if_pos ho] at h; exact h.elim
      · rw [if_neg ho] at h; exact ⟨by simpa using ho, h⟩
    · rcases h with ⟨z, h, _⟩ | ⟨o2, ys, h, ho, h2⟩
      · cases h
      · cases h
        show (if _ then _ else _ : R (List D)).Ok _
        rw [if_neg (by rw [ho]; simp)]
        exact h2
  | _ => simp
@[simp] theorem w_rng {e : E} {ql : List D → Env → Prop} : (evS C (.rng e) s).Ok ql = (ev C e s).Ok fun d s => ∃ xs, (asI d).bind rng1 = some xs ∧ ql xs s := by simp [evS]
end
/-! operations -/
@[simp] theorem ex_ca {α : Type} {c : Prop} {a : α} {p : α → Prop} : (∃ z, (c ∧ a = z) ∧ p z) ↔ c ∧ p a := ⟨fun ⟨_, ⟨h, e⟩, q⟩ => ⟨h, e ▸ q⟩, fun ⟨h, q⟩ => ⟨a, ⟨h, rfl⟩, q⟩⟩
@[simp] theorem ex_caa {α : Type} {c e : Prop} {a : α} {p : α → Prop} : (∃ z, (c ∧ e ∧ a = z) ∧ p z) ↔ c ∧ e ∧ p a := ⟨fun ⟨_, ⟨h, g, e⟩, q⟩ => ⟨h, g, e ▸ q⟩, fun ⟨h, g, q⟩ => ⟨a, ⟨h, g, rfl⟩, q⟩⟩
@[simp] theorem at_0 {α : Type} {x : α} {xs : List α} : at_ (x :: xs) 0 = some x := by
  unfold at_ ixOf
  rw [if_pos (by omega), if_pos (by simp)]
  rfl
@[simp] theorem at_1 {α : Type} {x y : α} {xs : List α} : at_ (x :: y :: xs) 1 = some y := by
  unfold at_ ixOf
  rw [if_pos (by omega), if_pos (by simp; omega)]
  rfl
@[simp] theorem ix_0 : ixOf 2 0 = some 0 := rfl
@[simp] theorem ix_1 : ixOf 2 1 = some 1 := rfl
@[simp] theorem mulOk_r {i : Int} {n : Nat} (h : n < 18446744073709551616) : mulOk i (OfNat.ofNat n) = true := by
  have e : (OfNat.ofNat n : Int).natAbs = n := rfl
  unfold mulOk
  rw [e]
  simp [h]
@[simp] theorem mulOk_l {i : Int} {n : Nat} (h : n < 18446744073709551616) : mulOk (OfNat.ofNat n) i = true := by
  have e : (OfNat.ofNat n : Int).natAbs = n := rfl
  unfold mulOk
  rw [e]
  simp [h]
mutual
@[simp] theorem frz_own : ∀ d : D, d.frz.own = false
  | .non => rfl
  | .bl _ => rfl
  | .int _ => rfl
  | .str _ => rfl
  | .tup xs => frzL_own xs
  | .lst _ xs => by simp [D.frz, D.own, frzL_own xs]
  | .dct _ xs => by simp [D.frz, D.own, frzP_own xs]
  | .set _ xs => by simp [D.frz, D.own, frzL_own xs]
  | .ins _ _ xs => by simp [D.frz, D.own, frzF_own xs]
@[simp] theorem frzL_own : ∀ xs : List D, ownL (frzL xs) = false
  | [] => rfl
  | x :: xs => by simp [frzL, ownL, frz_own x, frzL_own xs]
theorem frzP_own : ∀ xs : List (D × D), ownP (frzP xs) = false
  | [] => rfl
  | (x, y) :: xs => by simp [frzP, ownP, frz_own x, frz_own y, frzP_own xs]
theorem frzF_own : ∀ xs : List (Nat × D), ownF (frzF xs) = false
  | [] => rfl
  | (x, y) :: xs => by simp [frzF, ownF, frz_own y, frzF_own xs]
end
@[simp] theorem eqOf_i {i j : Int} : eqOf (.int i) (.int j) = some (i == j) := rfl
@[simp] theorem eqOf_s {i j : List Nat} : eqOf (.str i) (.str j) = some (i == j) := rfl
@[simp] theorem eqOf_b {i j : Bool} : eqOf (.bl i) (.bl j) = some (i == j) := rfl
theorem mulOk_a {i j : Int} (h : i.natAbs < 18446744073709551616) : mulOk i j = true := by simp [mulOk, h]
theorem mulOk_b {i j : Int} (h : j.natAbs < 18446744073709551616) : mulOk i j = true := by simp [mulOk, h]
section
variable {i j : Int} {s t : List Nat} {o p b c : Bool} {xs ys : List D} {x y : D}
@[simp] theorem o_addi : op2 .add (.int i) (.int j) = some (.int (i + j)) := rfl
@[simp] theorem o_adds : op2 .add (.str s) (.str t) = if s.length + t.length ≤ SL then some (.str (s ++ t)) else none := rfl
@[simp] theorem o_addl : op2 .add (.lst o xs) (.lst p ys) = if ownL xs ∨ ownL ys ∨ SL < xs.length + ys.length then none else some (.lst true (xs ++ ys)) := rfl
@[simp] theorem o_addt : op2 .add (.tup xs) (.tup ys) = if ownL xs ∨ ownL ys ∨ SL < xs.length + ys.length then none else some (.tup (xs ++ ys)) := rfl
@[simp] theorem o_addbi : op2 .add (.bl b) (.int j) = some (.int (b2i b + j)) := rfl
@[simp] theorem o_subbi : op2 .sub (.bl b) (.int j) = some (.int (b2i b - j)) := rfl
@[simp] theorem o_sub : op2 .sub (.int i) (.int j) = some (.int (i - j)) := rfl
@[simp] theorem o_mul : op2 .mul (.int i) (.int j) = if mulOk i j then some (.int (i * j)) else none := rfl
@[simp] theorem o_muls : op2 .mul (.str s) (.int j) = if j < 1000000 ∧ -1000000 < j ∧ s.length * j.toNat ≤ SL then some (.str (List.replicate j.toNat s).flatten) else none := rfl
@[simp] theorem o_mull : op2 .mul (.lst o xs) (.int j) = if ownL xs = false ∧ j < 1000000 ∧ -1000000 < j ∧ xs.length * j.toNat ≤ SL then some (.lst true (List.replicate j.toNat xs).flatten) else none := rfl
@[simp] theorem o_fdiv : op2 .fdiv (.int i) (.int j) = if 0 < j ∧ j < 1073741824 then some (.int (i / j)) else none := rfl
@[simp] theorem o_mod : op2 .mod (.int i) (.int j) = if 0 < j then some (.int (i % j)) else none := rfl
@[simp] theorem o_pow : op2 .pow (.int i) (.int j) = if 0 ≤ j ∧ j ≤ 1000000 ∧ i.natAbs < 18446744073709551616 then some (.int (i ^ j.toNat)) else none := rfl
@[simp] theorem o_eq : op2 .eq x y = (eqOf x y).map .bl := by cases x <;> rfl
@[simp] theorem o_ne : op2 .ne x y = (eqOf x y).map fun b => .bl (!b) := by cases x <;> rfl
@[simp] theorem o_isin : op2 .isin x y = (inOf x y).map .bl := by cases x <;> rfl
@[simp] theorem o_notin : op2 .notin x y = (inOf x y).map fun b => .bl (!b) := by cases x <;> rfl
@[simp] theorem o_lt : op2 .lt (.int i) (.int j) = some (.bl (decide (i < j))) := rfl
@[simp] theorem o_le : op2 .le (.int i) (.int j) = some (.bl (decide (i ≤ j))) := rfl
@[simp] theorem o_gt : op2 .gt (.int i) (.int j) = some (.bl (decide (j < i))) := rfl
@[simp] theorem o_ge : op2 .ge (.int i) (.int j) = some (.bl (decide (j ≤ i))) := rfl
@[simp] theorem o_is : op2 .is (.bl b) (.bl c) = some (.bl (decide (b = c))) := rfl
@[simp] theorem o_isnot : op2 .isnot (.bl b) (.bl c) = some (.bl (!decide (b = c))) := rfl
@[simp] theorem o_ixl : op2 .ix (.lst o xs) (.int i) = at_ xs i := rfl
@[simp] theorem o_ixt : op2 .ix (.tup xs) (.int i) = at_ xs i := rfl
@[simp] theorem o_ixs : op2 .ix (.str s) (.int i) = if s.length ≤ SL then (at_ s i).map fun c => .str [c] else none := rfl
@[simp] theorem o_min : op2 .min (.int i) (.int j) = some (.int (if j < i then j else i)) := rfl
@[simp] theorem o_max : op2 .max (.int i) (.int j) = some (.int (if j > i then j else i)) := rfl
@[simp] theorem o_split {c : Nat} : op2 .split (.str s) (.str [c]) = if s.length + 2 ≤ SL then some (.lst true ((parts c s).map .str)) else none := rfl
theorem o_join : op2 .join (.str s) (.lst o xs) = (strsOf xs).bind fun ys => if (ys.map List.length).sum + ys.length * s.length ≤ SL then some (.str (joined s ys)) else none := rfl
@[simp] theorem u_lenl : un1 .len (.lst o xs) = some (.int (xs.length : Int)) := rfl
@[simp] theorem u_lent : un1 .len (.tup xs) = some (.int (xs.length : Int)) := rfl
@[simp] theorem u_lens : un1 .len (.str s) = (if s.length ≤ SL then some s.length else none).map fun (n : Nat) => D.int (n : Int) := rfl
@[simp] theorem u_all : un1 .all (.lst o xs) = (truths xs).map fun bs => .bl (bs.all id) := rfl
@[simp] theorem u_any : un1 .any (.lst o xs) = (truths xs).map fun bs => .bl (bs.any id) := rfl
@[simp] theorem u_sorted : un1 .sorted (.lst o xs) = if ownL xs then none else (srtD xs).map (.lst true) := rfl
@[simp] theorem u_sortedt : un1 .sorted (.tup xs) = if ownL xs then none else (srtD xs).map (.lst true) := rfl
@[simp] theorem u_sortedd {kvs : List (D × D)} : un1 .sorted (.dct o kvs) = (srtD (dkeys kvs)).map (.lst true) := rfl
@[simp] theorem u_listd {kvs : List (D × D)} : un1 .list (.dct o kvs) = some (.lst true (dkeys kvs)) := rfl
@[simp] theorem u_lend {kvs : List (D × D)} : un1 .len (.dct o kvs) = some (.int (kvs.length : Int)) := rfl
@[simp] theorem u_sset : un1 .sset (.lst o xs) = (setD xs).bind fun ks => (srtD (ks.map D.str)).map (.lst true) := rfl
@[simp] theorem u_ssett : un1 .sset (.tup xs) = (setD xs).bind fun ks => (srtD (ks.map D.str)).map (.lst true) := rfl
@[simp] theorem u_lset : un1 .lset (.lst o xs) = (setD xs).map fun ks => .int ks.length := rfl
@[simp] theorem u_lsett : un1 .lset (.tup xs) = (setD xs).map fun ks => .int ks.length := rfl
@[simp] theorem u_dictl : un1 .dict (.lst o xs) = dctOf xs := rfl
@[simp] theorem u_dictt : un1 .dict (.tup xs) = dctOf xs := rfl
@[simp] theorem u_items {kvs : List (D × D)} : un1 .items (.dct o kvs) = if ownP kvs then none else (srtD (itemsOf kvs)).map (.lst true) := rfl
@[simp] theorem u_revt : un1 .rev (.tup xs) = if ownL xs then none else some (.tup xs.reverse) := rfl
@[simp] theorem u_rev : un1 .rev (.lst o xs) = if ownL xs then none else some (.lst true xs.reverse) := rfl
@[simp] theorem o_ixd {kvs : List (D × D)} : op2 .ix (.dct o kvs) x = if kin kvs x then dget kvs x else none := by cases x <;> rfl
@[simp] theorem o_strip : op2 .strip (.str s) (.str t) = if s.length ≤ SL then some (.str (stripB t s)) else none := rfl
@[simp] theorem tru_bl : truD (.bl b) = some b := rfl
@[simp] theorem tru_l : truD (.lst o xs) = some (!xs.isEmpty) := rfl
@[simp] theorem tru_t : truD (.tup xs) = some (!xs.isEmpty) := rfl
@[simp] theorem st_d {kvs : List (D × D)} : storeAt (.dct true kvs) x y = if kin kvs x && decide (kvs.length < SL) then some (.dct true (dput kvs x y)) else none := rfl
@[simp] theorem it_d {kvs : List (D × D)} : iterOf (.dct o kvs) = some (dkeys kvs) := rfl
@[simp] theorem knd_l : (D.lst o xs).knd = 1 := rfl
@[simp] theorem knd_d {kvs : List (D × D)} : (D.dct o kvs).knd = 2 := rfl
@[simp] theorem muk_append : Mu.append.k = 1 := rfl
@[simp] theorem muk_pop : Mu.pop.k = 1 := rfl
@[simp] theorem muk_extend : Mu.extend.k = 1 := rfl
@[simp] theorem muk_insert : Mu.insert.k = 1 := rfl
@[simp] theorem muk_getd : Mu.getd.k = 2 := rfl
@[simp] theorem m_getd {kvs : List (D × D)} : mutate .getd (.dct o kvs) [x, y] = if kin kvs x then (match dget kvs x with | some v => if v.own then none else some (v, .dct o kvs) | none => some (y, .dct o kvs)) else none := rfl
@[simp] theorem muk_popAt : Mu.popAt.k = 1 := rfl
@[simp] theorem m_pop : mutate .pop (.lst true xs) [] = match xs.getLast? with | some y => some (y, .lst true xs.dropLast) | none => none := rfl
@[simp] theorem m_extl : mutate .extend (.lst true xs) [.lst o ys] = if ownL ys ∨ SL < xs.length + ys.length then none else some (.non, .lst true (xs ++ ys)) := rfl
@[simp] theorem m_extt : mutate .extend (.lst true xs) [.tup ys] = if ownL ys ∨ SL < xs.length + ys.length then none else some (.non, .lst true (xs ++ ys)) := rfl
@[simp] theorem m_insert : mutate .insert (.lst true xs) [.int i, y] = if xs.length < SL ∧ 0 ≤ i ∧ i < 4611686018427387904 then some (.non, .lst true (xs.take i.toNat ++ y :: xs.drop i.toNat)) else none := rfl
@[simp] theorem m_popAt : mutate .popAt (.lst true xs) [.int i] = (ixOf xs.length i).bind fun j => xs[j]?.map fun y => (y, .lst true (xs.eraseIdx j)) := rfl
@[simp] theorem u_listl : un1 .list (.lst o xs) = if ownL xs then none else some (.lst true xs) := rfl
@[simp] theorem u_listt : un1 .list (.tup xs) = if ownL xs then none else some (.lst true xs) := rfl
@[simp] theorem u_tuplel : un1 .tuple (.lst o xs) = if ownL xs then none else some (.tup xs) := rfl
@[simp] theorem u_tuplet : un1 .tuple (.tup xs) = if ownL xs then none else some (.tup xs) := rfl
@[simp] theorem u_inti : un1 .int (.int i) = some (.int i) := rfl
@[simp] theorem u_intb : un1 .int (.bl b) = some (.int (b2i b)) := rfl
@[simp] theorem u_neg : un1 .neg (.int i) = some (.int (-i)) := rfl
@[simp] theorem u_not : un1 .not (.bl b) = some (.bl (!b)) := rfl
@[simp] theorem u_isNone : un1 .isNone x = some (.bl (match x with | .non => true | _ => false)) := by cases x <;> rfl
@[simp] theorem u_notNone : un1 .notNone x = some (.bl (match x with | .non => false | _ => true)) := by cases x <;> rfl
@[simp] theorem u_isStr : un1 .isStr x = some (.bl x.isStrB) := by cases x <;> rfl
@[simp] theorem u_isTup : un1 .isTup x = some (.bl x.isTupB) := by cases x <;> rfl
@[simp] theorem u_isLst : un1 .isLst x = some (.bl x.isLstB) := by cases x <;> rfl
@[simp] theorem u_isBool : un1 .isBool x = some (.bl x.isBoolB) := by cases x <;> rfl
@[simp] theorem u_isInt : un1 .isInt x = some (.bl x.isIntB) := by cases x <;> rfl
@[simp] theorem u_isSeq : un1 .isSeq x = some (.bl (x.isTupB || x.isLstB)) := by cases x <;> rfl
@[simp] theorem u_upper : un1 .upper (.str s) = if s.length ≤ 5592405 then some (.str (s.map upc)) else none := rfl
@[simp] theorem own_non : D.non.own = false := rfl
@[simp] theorem own_bl : (D.bl b).own = false := rfl
@[simp] theorem own_int : (D.int i).own = false := rfl
@[simp] theorem own_str : (D.str s).own = false := rfl
@[simp] theorem own_tup : (D.tup xs).own = ownL xs := rfl
@[simp] theorem own_lst : (D.lst o xs).own = (o || ownL xs) := rfl
@[simp] theorem own_nil : ownL [] = false := rfl
@[simp] theorem own_cons : ownL (x :: xs) = (x.own || ownL xs) := rfl
@[simp] theorem frz_non : D.non.frz = .non := rfl
@[simp] theorem frz_bl : (D.bl b).frz = .bl b := rfl
@[simp] theorem frz_int : (D.int i).frz = .int i := rfl
@[simp] theorem frz_str : (D.str s).frz = .str s := rfl
@[simp] theorem frz_tup : (D.tup xs).frz = .tup (frzL xs) := rfl
@[simp] theorem frz_lst : (D.lst o xs).frz = .lst false (frzL xs) := rfl
@[simp] theorem frz_nil : frzL [] = [] := rfl
@[simp] theorem frz_cons : frzL (x :: xs) = x.frz :: frzL xs := rfl
@[simp] theorem st_l : storeAt (.lst true xs) (.int i) y = (ixOf xs.length i).map fun j => .lst true (xs.set j y) := rfl
@[simp] theorem a_addi : aug2 .add (.int i) (.int j) = some (.int (i + j)) := rfl
@[simp] theorem a_subi : aug2 .sub (.int i) (.int j) = some (.int (i - j)) := rfl
@[simp] theorem m_append : mutate .append (.lst true xs) [y] = if xs.length < SL then some (.non, .lst true (xs ++ [y])) else none := rfl
@[simp] theorem asI_i : asI (.int i) = some i := rfl
@[simp] theorem it_l : iterOf (.lst o xs) = some xs := rfl
@[simp] theorem it_t : iterOf (.tup xs) = some xs := rfl
@[simp] theorem it_s : iterOf (.str s) = if s.length ≤ SL then some (s.map fun c => .str [c]) else none := rfl
end
end Z

set_option Elab.async false
set_option linter.all false
set_option maxRecDepth 100000
namespace Z
/- _law_draw -/
def b2 : S :=
    (.seq (.ite (.op .gt false (.op .ix false (.v 0) (.c (.int 0))) (.c (.int 0)))
    (.seq (.asg 2 (.op .mod false (.op .ix false (.v 0) (.c (.int 0))) (.v 1)))
      (.seq (.st 0 (.c (.int 0)) (.op .fdiv false (.op .ix false (.v 0) (.c (.int 0))) (.v 1)))
      (.ret (.mov 2))))
    .skip)
    (.seq (.asg 2 (.c (.int 0)))
    (.seq (.asg 3 (.c (.int 1)))
    (.seq (.wh (.op .lt false (.v 3) (.v 1))
    (.seq (.st 0 (.c (.int 1)) (.op .mod false (.op .mul false (.op .ix false (.v 0) (.c (.int 1))) (.c (.int 69621))) (.c (.int 2147483647))))
      (.seq (.asg 2 (.op .add false (.op .mul false (.v 2) (.c (.int 268435456))) (.op .fdiv false (.op .mod false (.op .mul false (.op .ix false (.v 0) (.c (.int 1))) (.op .add false (.op .fdiv false (.op .ix false (.v 0) (.c (.int 1))) (.c (.int 128))) (.c (.int 3)))) (.c (.int 2147483629))) (.c (.int 8)))))
      (.asg 3 (.op .mul false (.v 3) (.c (.int 268435456)))))))
    (.ret (.op .mod false (.v 2) (.v 1)))))))
def f2 : Fn := ⟨[true, false], 4, b2⟩
/- _law_of -/
def b3 : S :=
    (.ret (.val (.op .ix false (.v 1) (.call 2 [some 0, none] (.cons (.v 0) (.cons (.un .len (.v 1)) .nil))))))
def f3 : Fn := ⟨[true, false], 2, b3⟩
/- _law_draws -/
def b4 : S :=
    (.seq (.asg 2 (.op .mul false (.c (.int 15485863)) (.v 1)))
    (.seq (.ite (.op .lt false (.v 1) (.un .len (.v 0)))
    (.asg 2 (.op .mod false (.op .ix false (.v 0) (.v 1)) (.op .mul false (.op .mul false (.op .mul false (.op .mul false (.op .pow false (.c (.int 10)) (.c (.int 60))) (.op .pow false (.c (.int 10)) (.c (.int 60)))) (.op .pow false (.c (.int 10)) (.c (.int 60)))) (.op .pow false (.c (.int 10)) (.c (.int 60)))) (.op .pow false (.c (.int 10)) (.c (.int 60))))))
    (.ite (.op .gt false (.un .len (.v 0)) (.c (.int 0)))
      (.asg 2 (.op .add false (.op .mod false (.op .ix false (.v 0) (.op .mod false (.v 1) (.un .len (.v 0)))) (.op .pow false (.c (.int 10)) (.c (.int 15)))) (.op .mul false (.c (.int 15485863)) (.v 1))))
      .skip))
    (.ret (.lst (.cons (.op .mul false (.v 2) (.un .int (.op .ge false (.v 2) (.op .pow false (.c (.int 10)) (.c (.int 18)))))) (.cons (.op .add false (.c (.int 1)) (.op .mod false (.op .add false (.op .mul false (.v 2) (.c (.int 69621))) (.op .mul false (.c (.int 86028121)) (.op .add false (.v 1) (.c (.int 1))))) (.c (.int 2147483646)))) .nil))))))
def f4 : Fn := ⟨[false, false], 3, b4⟩
/- _law_signs -/
def b5 : S :=
    (.ret (.c (.str [46, 97, 98, 99, 100, 101, 102, 103, 104, 105, 106, 107, 108, 109, 110, 111, 112, 113, 114, 115, 116, 117, 118, 119, 120, 121, 122])))
def f5 : Fn := ⟨[], 0, b5⟩
/- _law_few_signs -/
def b6 : S :=
    (.seq (.asg 1 (.call 2 [some 0, none] (.cons (.v 0) (.cons (.c (.int 25)) .nil))))
    (.ret (.op .ix false (.lst (.cons (.c (.str [46, 97])) (.cons (.c (.str [97, 98])) (.cons (.c (.str [97, 98, 122])) (.cons (.c (.str [46, 97, 98])) (.cons (.slc false true true (.call 5 [] .nil) (.v 1) (.op .add false (.v 1) (.c (.int 3)))) .nil)))))) (.call 2 [some 0, none] (.cons (.v 0) (.cons (.c (.int 5)) .nil))))))
def f6 : Fn := ⟨[true], 2, b6⟩
/- _law_part -/
def b7 : S :=
    (.ret (.op .join false (.c (.str [])) (.comp (.call 3 [some 0, none] (.cons (.v 0) (.cons (.fr 1) .nil))) (.nm 2) (.rng (.op .add false (.c (.int 1)) (.fz (.call 2 [some 0, none] (.cons (.v 0) (.cons (.c (.int 3)) .nil)))))) (.c (.bl true)) [2])))
def f7 : Fn := ⟨[true, false], 3, b7⟩
/- _law_path -/
def b8 : S :=
    (.ret (.op .join false (.c (.str [47])) (.comp (.call 7 [some 0, none] (.cons (.v 0) (.cons (.fr 1) .nil))) (.nm 2) (.rng (.op .add false (.c (.int 1)) (.fz (.call 2 [some 0, none] (.cons (.v 0) (.cons (.c (.int 4)) .nil)))))) (.c (.bl true)) [2])))
def f8 : Fn := ⟨[true, false], 3, b8⟩
/- _law_truly -/
def b10 : S :=
    (.ret (.and (.un .isBool (.v 0)) (.op .eq false (.v 0) (.v 1))))
def f10 : Fn := ⟨[false, false], 2, b10⟩
/- _law_marks -/
def b17 : S :=
    (.seq (.asg 3 (.c (.str [])))
    (.seq (.for (.nm 4) (.rng (.op .add false (.c (.int 1)) (.fz (.call 2 [some 0, none] (.cons (.v 0) (.cons (.fr 2) .nil))))))
    (.seq (.asg 5 (.call 3 [some 0, none] (.cons (.v 0) (.cons (.lst (.cons (.val (.op .ix false (.v 1) (.call 2 [some 0, none] (.cons (.v 0) (.cons (.un .len (.v 1)) .nil))))) (.cons (.val (.op .ix false (.v 1) (.c (.int 0)))) (.cons (.c (.str [42])) (.cons (.c (.str [63])) .nil))))) .nil))))
      (.ite (.or (.op .ne false (.v 5) (.c (.str [42]))) (.op .ne false (.slc false true false (.v 3) (.un .neg (.c (.int 1))) (.c .non)) (.c (.str [42]))))
      (.asg 3 (.op .add false (.v 3) (.v 5)))
      .skip)))
    (.ret (.mov 3))))
def f17 : Fn := ⟨[true, false, false], 6, b17⟩
/- beside -/
def b21 : S :=
    (.seq (.unp [3, 4] (.fr 1))
    (.seq (.asg 2 (.val (.op .ix false (.v 0) (.v 3))))
    (.seq (.ite (.op .eq false (.v 2) (.c (.str [42, 42])))
    (.ret (.ite (.and (.op .eq false (.v 4) (.c (.int 0))) (.op .lt false (.op .add false (.v 3) (.c (.int 1))) (.un .len (.v 0)))) (.lst (.cons (.tup (.cons (.op .add false (.v 3) (.c (.int 1))) (.cons (.c (.int 0)) .nil))) .nil)) (.lst .nil)))
    .skip)
    (.ret (.ite (.op .eq false (.slc false true true (.v 2) (.v 4) (.op .add false (.v 4) (.c (.int 1)))) (.c (.str [42]))) (.lst (.cons (.tup (.cons (.fr 3) (.cons (.op .add false (.v 4) (.c (.int 1))) .nil))) .nil)) (.lst .nil))))))
def f21 : Fn := ⟨[false, false], 5, b21⟩
/- closed -/
def b22 : S :=
    (.seq (.asg 2 .dnew)
    (.seq (.asg 3 (.un .list (.v 1)))
    (.seq (.wh (.op .ne false (.v 3) (.lst .nil))
    (.seq (.asg 4 (.mu .pop 3 .nil))
      (.ite (.op .notin false (.v 4) (.v 2))
      (.seq (.st 2 (.v 4) (.c (.bl true)))
        (.ex (.mu .extend 3 (.cons (.call 21 [none, none] (.cons (.fr 0) (.cons (.fr 4) .nil))) .nil))))
      .skip)))
    (.ret (.un .tuple (.un .sorted (.v 2)))))))
def f22 : Fn := ⟨[false, false], 5, b22⟩
/- first_places -/
def b23 : S :=
    (.ret (.call 22 [none, none] (.cons (.op .split false (.v 0) (.c (.str [47]))) (.cons (.lst (.cons (.tup (.cons (.c (.int 0)) (.cons (.c (.int 0)) .nil))) .nil)) .nil))))
def f23 : Fn := ⟨[false], 1, b23⟩
/- by_sign -/
def b24 : S :=
    (.seq (.asg 3 (.op .split false (.v 0) (.c (.str [47]))))
    (.seq (.asg 4 (.lst .nil))
    (.seq (.for (.tp [5, 6]) (.of (.v 1))
    (.seq (.asg 7 (.val (.op .ix false (.v 3) (.v 5))))
      (.seq (.asg 8 (.slc false true true (.v 7) (.v 6) (.op .add false (.v 6) (.c (.int 1)))))
      (.ite (.op .eq false (.v 7) (.c (.str [42, 42])))
      (.ex (.mu .append 4 (.cons (.tup (.cons (.fr 5) (.cons (.c (.int 1)) .nil))) .nil)))
      (.ite (.op .isin false (.v 8) (.tup (.cons (.fr 2) (.cons (.c (.str [63])) .nil))))
        (.ex (.mu .append 4 (.cons (.tup (.cons (.fr 5) (.cons (.op .add false (.v 6) (.c (.int 1))) .nil))) .nil)))
        (.ite (.op .eq false (.v 8) (.c (.str [42])))
          (.ex (.mu .append 4 (.cons (.tup (.cons (.fr 5) (.cons (.fr 6) .nil))) .nil)))
          .skip))))))
    (.ret (.call 22 [none, none] (.cons (.fr 3) (.cons (.fr 4) .nil)))))))
def f24 : Fn := ⟨[false, false, false], 9, b24⟩
/- by_stroke -/
def b25 : S :=
    (.seq (.asg 2 (.op .split false (.v 0) (.c (.str [47]))))
    (.seq (.asg 3 (.lst .nil))
    (.seq (.for (.tp [4, 5]) (.of (.v 1))
    (.ite (.op .eq false (.op .ix false (.v 2) (.v 4)) (.c (.str [42, 42])))
      (.ite (.op .eq false (.v 5) (.c (.int 1)))
        (.ex (.mu .append 3 (.cons (.tup (.cons (.fr 4) (.cons (.c (.int 0)) .nil))) .nil)))
        .skip)
      (.ite (.and (.op .eq false (.v 5) (.un .len (.op .ix false (.v 2) (.v 4)))) (.op .lt false (.op .add false (.v 4) (.c (.int 1))) (.un .len (.v 2))))
        (.ex (.mu .append 3 (.cons (.tup (.cons (.op .add false (.v 4) (.c (.int 1))) (.cons (.c (.int 0)) .nil))) .nil)))
        .skip)))
    (.ret (.call 22 [none, none] (.cons (.fr 2) (.cons (.fr 3) .nil)))))))
def f25 : Fn := ⟨[false, false], 6, b25⟩
/- has_end -/
def b26 : S :=
    (.seq (.asg 2 (.op .split false (.v 0) (.c (.str [47]))))
    (.seq (.for (.tp [3, 4]) (.of (.v 1))
    (.seq (.asg 5 (.ite (.op .eq false (.op .ix false (.v 2) (.v 3)) (.c (.str [42, 42]))) (.op .eq false (.v 4) (.c (.int 1))) (.op .eq false (.v 4) (.un .len (.op .ix false (.v 2) (.v 3))))))
      (.ite (.and (.v 5) (.un .all (.comp (.op .eq false (.v 6) (.c (.str [42, 42]))) (.nm 6) (.of (.slc false true false (.v 2) (.op .add false (.v 3) (.c (.int 1))) (.c .non))) (.c (.bl true)) [6])))
      (.ret (.c (.bl true)))
      .skip)))
    (.ret (.c (.bl false)))))
def f26 : Fn := ⟨[false, false], 7, b26⟩
/- _law_ends -/
def b37 : S :=
    (.seq (.asg 2 (.op .split false (.v 0) (.c (.str [47]))))
    (.seq (.for (.tp [3, 4]) (.of (.v 1))
    (.ite (.op .eq false (.v 4) (.ite (.op .eq false (.op .ix false (.v 2) (.v 3)) (.c (.str [42, 42]))) (.c (.int 1)) (.un .len (.op .ix false (.v 2) (.v 3)))))
      (.ite (.op .eq false (.comp (.fr 5) (.nm 5) (.of (.slc false true false (.v 2) (.op .add false (.v 3) (.c (.int 1))) (.c .non))) (.op .ne false (.v 5) (.c (.str [42, 42]))) [5]) (.lst .nil))
        (.ret (.c (.bl true)))
        .skip)
      .skip))
    (.ret (.c (.bl false)))))
def f37 : Fn := ⟨[false, false], 6, b37⟩
/- _law_some_places -/
def b39 : S :=
    (.seq (.asg 2 .dnew)
    (.seq (.for (.nm 3) (.rng (.call 2 [some 0, none] (.cons (.v 0) (.cons (.c (.int 4)) .nil))))
    (.seq (.asg 4 (.op .split false (.v 1) (.c (.str [47]))))
      (.seq (.asg 5 (.call 2 [some 0, none] (.cons (.v 0) (.cons (.un .len (.v 4)) .nil))))
      (.st 2 (.tup (.cons (.fr 5) (.cons (.call 2 [some 0, none] (.cons (.v 0) (.cons (.ite (.op .eq false (.op .ix false (.v 4) (.v 5)) (.c (.str [42, 42]))) (.c (.int 2)) (.op .add false (.un .len (.op .ix false (.v 4) (.v 5))) (.c (.int 1)))) .nil))) .nil))) (.c (.bl true))))))
    (.ret (.un .tuple (.un .sorted (.v 2))))))
def f39 : Fn := ⟨[true, false], 6, b39⟩
/- _law_filled -/
def b139 : S :=
    (.seq (.asg 3 (.c (.str [])))
    (.seq (.for (.nm 4) (.of (.v 2))
    (.ite (.op .eq false (.v 4) (.c (.str [42])))
      (.asg 3 (.op .add false (.v 3) (.op .join false (.c (.str [])) (.comp (.call 3 [some 0, none] (.cons (.v 0) (.cons (.fr 1) .nil))) (.nm 5) (.rng (.op .ix false (.lst (.cons (.c (.int 0)) (.cons (.c (.int 0)) (.cons (.c (.int 1)) (.cons (.c (.int 2)) (.cons (.c (.int 3)) .nil)))))) (.call 2 [some 0, none] (.cons (.v 0) (.cons (.c (.int 5)) .nil))))) (.c (.bl true)) [5]))))
      (.asg 3 (.op .add false (.v 3) (.ite (.op .eq false (.v 4) (.c (.str [63]))) (.call 3 [some 0, none] (.cons (.v 0) (.cons (.fr 1) .nil))) (.v 4))))))
    (.ret (.ite (.op .ne false (.v 3) (.c (.str []))) (.mov 3) (.call 3 [some 0, none] (.cons (.v 0) (.cons (.fr 1) .nil)))))))
def f139 : Fn := ⟨[true, false, false], 6, b139⟩
/- _law_pattern -/
def b161 : S :=
    (.seq (.asg 4 (.lst .nil))
    (.seq (.for (.nm 5) (.rng (.op .add false (.c (.int 1)) (.fz (.call 2 [some 0, none] (.cons (.v 0) (.cons (.fr 2) .nil))))))
    (.ex (.mu .append 4 (.cons (.ite (.op .eq false (.call 2 [some 0, none] (.cons (.v 0) (.cons (.c (.int 4)) .nil))) (.c (.int 0))) (.c (.str [42, 42])) (.fz (.call 17 [some 0, none, none] (.cons (.v 0) (.cons (.fr 1) (.cons (.fr 3) .nil)))))) .nil))))
    (.ret (.op .join false (.c (.str [47])) (.v 4)))))
def f161 : Fn := ⟨[true, false, false, false], 6, b161⟩
/- _law_fitting -/
def b165 : S :=
    (.seq (.asg 3 (.lst .nil))
    (.seq (.for (.nm 4) (.of (.op .split false (.v 2) (.c (.str [47]))))
    (.ite (.op .eq false (.v 4) (.c (.str [42, 42])))
      (.ex (.mu .extend 3 (.cons (.fz (.comp (.call 7 [some 0, none] (.cons (.v 0) (.cons (.fr 1) .nil))) (.nm 5) (.rng (.op .ix false (.lst (.cons (.c (.int 0)) (.cons (.c (.int 1)) (.cons (.c (.int 1)) (.cons (.c (.int 2)) .nil))))) (.call 2 [some 0, none] (.cons (.v 0) (.cons (.c (.int 4)) .nil))))) (.c (.bl true)) [5])) .nil)))
      (.ex (.mu .append 3 (.cons (.fz (.call 139 [some 0, none, none] (.cons (.v 0) (.cons (.fr 1) (.cons (.fr 4) .nil))))) .nil)))))
    (.ret (.ite (.op .ne false (.v 3) (.lst .nil)) (.op .join false (.c (.str [47])) (.v 3)) (.call 7 [some 0, none] (.cons (.v 0) (.cons (.fr 1) .nil)))))))
def f165 : Fn := ⟨[true, false, false], 6, b165⟩
/- _law_spread -/
def b196 : S :=
    (.seq (.asg 2 (.un .dict (.fz (.comp (.tup (.cons (.fr 6) (.cons (.c (.bl true)) .nil))) (.nm 6) (.of (.v 1)) (.c (.bl true)) [6]))))
    (.seq (.asg 3 (.un .neg (.c (.int 1))))
    (.seq (.wh (.op .lt false (.v 3) (.un .len (.v 2)))
    (.seq (.asg 3 (.un .len (.v 2)))
      (.for (.tp [4, 5]) (.of (.un .list (.v 2)))
      (.ite (.op .eq false (.op .ix false (.v 0) (.v 4)) (.c (.str [42, 42])))
        (.ite (.and (.op .eq false (.v 5) (.c (.int 0))) (.op .lt false (.v 4) (.op .sub false (.un .len (.v 0)) (.c (.int 1)))))
          (.st 2 (.tup (.cons (.op .add false (.v 4) (.c (.int 1))) (.cons (.c (.int 0)) .nil))) (.c (.bl true)))
          .skip)
        (.ite (.and (.op .lt false (.v 5) (.un .len (.op .ix false (.v 0) (.v 4)))) (.op .eq false (.op .ix false (.op .ix false (.v 0) (.v 4)) (.v 5)) (.c (.str [42]))))
          (.st 2 (.tup (.cons (.fr 4) (.cons (.op .add false (.v 5) (.c (.int 1))) .nil))) (.c (.bl true)))
          .skip)))))
    (.ret (.un .tuple (.un .sorted (.v 2)))))))
def f196 : Fn := ⟨[false, false], 7, b196⟩
/- _law_start -/
def b197 : S :=
    (.ret (.op .add false (.tup (.cons (.c (.int 0)) .nil)) (.un .tuple (.fz (.comp (.call 196 [none, none] (.cons (.op .split false (.v 1) (.c (.str [47]))) (.cons (.lst (.cons (.tup (.cons (.c (.int 0)) (.cons (.c (.int 0)) .nil))) .nil)) .nil))) (.nm 1) (.of (.v 0)) (.c (.bl true)) [1])))))
def f197 : Fn := ⟨[false], 2, b197⟩
/- _law_by -/
def b198 : S :=
    (.seq (.asg 3 (.op .split false (.v 0) (.c (.str [47]))))
    (.seq (.asg 4 (.lst .nil))
    (.seq (.for (.tp [5, 6]) (.of (.v 1))
    (.seq (.asg 7 (.val (.op .ix false (.v 3) (.v 5))))
      (.ite (.op .eq false (.v 7) (.c (.str [42, 42])))
      (.ite (.or (.op .ne false (.v 2) (.c (.str [47]))) (.op .eq false (.v 6) (.c (.int 1))))
        (.ex (.mu .append 4 (.cons (.tup (.cons (.fr 5) (.cons (.un .int (.op .ne false (.v 2) (.c (.str [47])))) .nil))) .nil)))
        .skip)
      (.ite (.op .eq false (.v 2) (.c (.str [47])))
        (.ite (.and (.op .eq false (.v 6) (.un .len (.v 7))) (.op .lt false (.v 5) (.op .sub false (.un .len (.v 3)) (.c (.int 1)))))
          (.ex (.mu .append 4 (.cons (.tup (.cons (.op .add false (.v 5) (.c (.int 1))) (.cons (.c (.int 0)) .nil))) .nil)))
          .skip)
        (.ite (.op .lt false (.v 6) (.un .len (.v 7)))
          (.seq (.ite (.op .isin false (.op .ix false (.v 7) (.v 6)) (.tup (.cons (.fr 2) (.cons (.c (.str [63])) .nil))))
            (.ex (.mu .append 4 (.cons (.tup (.cons (.fr 5) (.cons (.op .add false (.v 6) (.c (.int 1))) .nil))) .nil)))
            .skip)
            (.ite (.op .eq false (.op .ix false (.v 7) (.v 6)) (.c (.str [42])))
            (.ex (.mu .append 4 (.cons (.tup (.cons (.fr 5) (.cons (.fr 6) .nil))) .nil)))
            .skip))
          .skip)))))
    (.ret (.call 196 [none, none] (.cons (.fr 3) (.cons (.fr 4) .nil)))))))
def f198 : Fn := ⟨[false, false, false], 8, b198⟩
/- law -/
def b199 : S :=
    (.seq (.for (.nm 1) (.rng (.op .max false (.c (.int 1)) (.op .min false (.c (.int 20)) (.un .len (.v 0)))))
    (.seq (.asg 2 (.call 4 [none, none] (.cons (.fr 0) (.cons (.fr 1) .nil))))
      (.seq (.asg 3 (.call 6 [some 2] (.cons (.v 2) .nil)))
      (.seq (.asg 4 (.call 161 [some 2, none, none, none] (.cons (.v 2) (.cons (.fr 3) (.cons (.c (.int 5)) (.cons (.c (.int 6)) .nil))))))
      (.seq (.asg 5 (.op .ix false (.lst (.cons (.call 8 [some 2, none] (.cons (.v 2) (.cons (.fr 3) .nil))) (.cons (.call 165 [some 2, none, none] (.cons (.v 2) (.cons (.fr 3) (.cons (.fr 4) .nil)))) .nil))) (.call 2 [some 2, none] (.cons (.v 2) (.cons (.c (.int 2)) .nil)))))
      (.seq (.asg 6 (.call 23 [none] (.cons (.fr 4) .nil)))
      (.seq (.asg 7 (.op .ix false (.call 197 [none] (.cons (.tup (.cons (.fr 4) .nil)) .nil)) (.c (.int 1))))
      (.seq (.for (.nm 8) (.of (.slc false false true (.v 5) (.c .non) (.c (.int 40))))
      (.seq (.ite (.or (.op .ne false (.v 6) (.v 7)) (.or (.un .not (.un .isTup (.v 6))) (.un .not (.call 10 [none, none] (.cons (.call 26 [none, none] (.cons (.fr 4) (.cons (.fr 7) .nil))) (.cons (.call 37 [none, none] (.cons (.fr 4) (.cons (.fr 7) .nil))) .nil))))))
        (.ret (.c (.bl false)))
        .skip)
        (.seq (.asg 6 (.ite (.op .eq false (.v 8) (.c (.str [47]))) (.call 25 [none, none] (.cons (.fr 4) (.cons (.fr 7) .nil))) (.call 24 [none, none, none] (.cons (.fr 4) (.cons (.fr 7) (.cons (.fr 8) .nil))))))
        (.asg 7 (.call 198 [none, none, none] (.cons (.fr 4) (.cons (.fr 7) (.cons (.fr 8) .nil))))))))
      (.seq (.asg 9 (.call 39 [some 2, none] (.cons (.v 2) (.cons (.fr 4) .nil))))
      (.seq (.asg 8 (.call 3 [some 2, none] (.cons (.v 2) (.cons (.fr 3) .nil))))
      (.seq (.ite (.op .ne false (.call 24 [none, none, none] (.cons (.fr 4) (.cons (.fr 9) (.cons (.fr 8) .nil)))) (.call 198 [none, none, none] (.cons (.fr 4) (.cons (.fr 9) (.cons (.fr 8) .nil)))))
      (.ret (.c (.bl false)))
      .skip)
      (.seq (.ite (.or (.op .ne false (.call 25 [none, none] (.cons (.fr 4) (.cons (.fr 9) .nil))) (.call 198 [none, none, none] (.cons (.fr 4) (.cons (.fr 9) (.cons (.c (.str [47])) .nil))))) (.op .ne false (.v 6) (.v 7)))
      (.ret (.c (.bl false)))
      .skip)
      (.ite (.un .not (.call 10 [none, none] (.cons (.call 26 [none, none] (.cons (.fr 4) (.cons (.fr 9) .nil))) (.cons (.call 37 [none, none] (.cons (.fr 4) (.cons (.fr 9) .nil))) .nil))))
      (.ret (.c (.bl false)))
      .skip)))))))))))))
    (.ret (.c (.bl true))))
def f199 : Fn := ⟨[false], 10, b199⟩
end Z


set_option Elab.async false
set_option linter.all false
set_option maxRecDepth 100000
namespace Z
open PySem PySem.Spec PyProof.Rows L2
def cs : List (Str × D) := [("STROKE", .str [47]), ("ANY_PARTS", .str [42, 42]), ("ANY_SIGNS", .str [42]), ("ONE_SIGN", .str [63])]
def topS (i : Nat) : Stmt := PySem.Challenge.pw_lookdue_k11_places_of_patterns.main.body.getD i (.Pass ⟨0, 0, 0, 0⟩)
def e0 : Ent := ⟨22, "closed", topS 5, ["parts", "places", "found", "waiting", "place"], ["parts", "places"], [false, false], b22⟩
def e1 : Ent := ⟨21, "beside", topS 6, ["parts", "place", "marks", "part", "at"], ["parts", "place"], [false, false], b21⟩
def e2 : Ent := ⟨23, "first_places", topS 7, ["pattern"], ["pattern"], [false], b23⟩
def e3 : Ent := ⟨24, "by_sign", topS 8, ["pattern", "places", "sign", "parts", "found", "part", "at", "marks", "mark"], ["pattern", "places", "sign"], [false, false, false], b24⟩
def e4 : Ent := ⟨25, "by_stroke", topS 9, ["pattern", "places", "parts", "found", "part", "at"], ["pattern", "places"], [false, false], b25⟩
def e5 : Ent := ⟨26, "has_end", topS 10, ["pattern", "places", "parts", "part", "at", "done", "one"], ["pattern", "places"], [false, false], b26⟩
def e6 : Ent := ⟨2, "_law_draw", topS 12, ["_law_draws_here", "_law_many", "_law_found", "_law_wide"], ["_law_draws_here", "_law_many"], [true, false], b2⟩
def e7 : Ent := ⟨4, "_law_draws", topS 13, ["_law_script", "_law_k", "_law_cell"], ["_law_script", "_law_k"], [false, false], b4⟩
def e8 : Ent := ⟨5, "_law_signs", topS 14, [], [], [], b5⟩
def e9 : Ent := ⟨6, "_law_few_signs", topS 15, ["_law_draws_here", "_law_first"], ["_law_draws_here"], [true], b6⟩
def e10 : Ent := ⟨3, "_law_of", topS 16, ["_law_draws_here", "_law_some"], ["_law_draws_here", "_law_some"], [true, false], b3⟩
def e11 : Ent := ⟨17, "_law_marks", topS 17, ["_law_draws_here", "_law_signs_here", "_law_most", "_law_found", "_law_k", "_law_mark"], ["_law_draws_here", "_law_signs_here", "_law_most"], [true, false, false], b17⟩
def e12 : Ent := ⟨161, "_law_pattern", topS 18, ["_law_draws_here", "_law_signs_here", "_law_parts", "_law_most", "_law_found", "_law_k"], ["_law_draws_here", "_law_signs_here", "_law_parts", "_law_most"], [true, false, false, false], b161⟩
def e13 : Ent := ⟨7, "_law_part", topS 19, ["_law_draws_here", "_law_signs_here", "_law_k"], ["_law_draws_here", "_law_signs_here"], [true, false], b7⟩
def e14 : Ent := ⟨8, "_law_path", topS 20, ["_law_draws_here", "_law_signs_here", "_law_k"], ["_law_draws_here", "_law_signs_here"], [true, false], b8⟩
def e15 : Ent := ⟨139, "_law_filled", topS 21, ["_law_draws_here", "_law_signs_here", "_law_part_here", "_law_found", "_law_mark", "_law_k"], ["_law_draws_here", "_law_signs_here", "_law_part_here"], [true, false, false], b139⟩
def e16 : Ent := ⟨165, "_law_fitting", topS 22, ["_law_draws_here", "_law_signs_here", "_law_pattern_here", "_law_found", "_law_part_here", "_law_k"], ["_law_draws_here", "_law_signs_here", "_law_pattern_here"], [true, false, false], b165⟩
def e17 : Ent := ⟨196, "_law_spread", topS 23, ["_law_parts", "_law_places", "_law_found", "_law_many", "_law_part_here", "_law_at", "_law_place"], ["_law_parts", "_law_places"], [false, false], b196⟩
def e18 : Ent := ⟨197, "_law_start", topS 24, ["_law_patterns", "_law_pattern_here"], ["_law_patterns"], [false], b197⟩
def e19 : Ent := ⟨10, "_law_truly", topS 25, ["_law_found", "_law_due"], ["_law_found", "_law_due"], [false, false], b10⟩
def e20 : Ent := ⟨37, "_law_ends", topS 26, ["_law_pattern_here", "_law_places", "_law_parts", "_law_part_here", "_law_at", "_law_one"], ["_law_pattern_here", "_law_places"], [false, false], b37⟩
def e21 : Ent := ⟨198, "_law_by", topS 27, ["_law_pattern_here", "_law_places", "_law_sign", "_law_parts", "_law_found", "_law_part_here", "_law_at", "_law_marks_here"], ["_law_pattern_here", "_law_places", "_law_sign"], [false, false, false], b198⟩
def e22 : Ent := ⟨39, "_law_some_places", topS 28, ["_law_draws_here", "_law_pattern_here", "_law_found", "_law_k", "_law_parts", "_law_part_here"], ["_law_draws_here", "_law_pattern_here"], [true, false], b39⟩
def e23 : Ent := ⟨199, "law", topS 29, ["_law_script", "_law_k", "_law_draws_here", "_law_signs_here", "_law_pattern_here", "_law_path_here", "_law_places", "_law_due", "_law_sign", "_law_some"], ["_law_script"], [false], b199⟩
def tab : List Ent := [e0, e1, e2, e3, e4, e5, e6, e7, e8, e9, e10, e11, e12, e13, e14, e15, e16, e17, e18, e19, e20, e21, e22, e23]
def prg : Nat → Option Fn := tabP tab
instance : Has prg 22 f22 := ⟨rfl⟩
theorem ok0 : EntOk ⟨cs, tabF tab, kwF tab⟩ e0 := ⟨⟨rfl, rfl, rfl, by decide +kernel, rfl, by decide +kernel, by decide +kernel⟩, by kernel_rfl, rfl, by decide +kernel⟩
instance : Has prg 21 f21 := ⟨rfl⟩
theorem ok1 : EntOk ⟨cs, tabF tab, kwF tab⟩ e1 := ⟨⟨rfl, rfl, rfl, by decide +kernel, rfl, by decide +kernel, by decide +kernel⟩, by kernel_rfl, rfl, by decide +kernel⟩
instance : Has prg 23 f23 := ⟨rfl⟩
theorem ok2 : EntOk ⟨cs, tabF tab, kwF tab⟩ e2 := ⟨⟨rfl, rfl, rfl, by decide +kernel, rfl, by decide +kernel, by decide +kernel⟩, by kernel_rfl, rfl, by decide +kernel⟩
instance : Has prg 24 f24 := ⟨rfl⟩
theorem ok3 : EntOk ⟨cs, tabF tab, kwF tab⟩ e3 := ⟨⟨rfl, rfl, rfl, by decide +kernel, rfl, by decide +kernel, by decide +kernel⟩, by kernel_rfl, rfl, by decide +kernel⟩
instance : Has prg 25 f25 := ⟨rfl⟩
theorem ok4 : EntOk ⟨cs, tabF tab, kwF tab⟩ e4 := ⟨⟨rfl, rfl, rfl, by decide +kernel, rfl, by decide +kernel, by decide +kernel⟩, by kernel_rfl, rfl, by decide +kernel⟩
instance : Has prg 26 f26 := ⟨rfl⟩
theorem ok5 : EntOk ⟨cs, tabF tab, kwF tab⟩ e5 := ⟨⟨rfl, rfl, rfl, by decide +kernel, rfl, by decide +kernel, by decide +kernel⟩, by kernel_rfl, rfl, by decide +kernel⟩
instance : Has prg 2 f2 := ⟨rfl⟩
theorem ok6 : EntOk ⟨cs, tabF tab, kwF tab⟩ e6 := ⟨⟨rfl, rfl, rfl, by decide +kernel, rfl, by decide +kernel, by decide +kernel⟩, by kernel_rfl, rfl, by decide +kernel⟩
instance : Has prg 4 f4 := ⟨rfl⟩
theorem ok7 : EntOk ⟨cs, tabF tab, kwF tab⟩ e7 := ⟨⟨rfl, rfl, rfl, by decide +kernel, rfl, by decide +kernel, by decide +kernel⟩, by kernel_rfl, rfl, by decide +kernel⟩
instance : Has prg 5 f5 := ⟨rfl⟩
theorem ok8 : EntOk ⟨cs, tabF tab, kwF tab⟩ e8 := ⟨⟨rfl, rfl, rfl, by decide +kernel, rfl, by decide +kernel, by decide +kernel⟩, by kernel_rfl, rfl, by decide +kernel⟩
instance : Has prg 6 f6 := ⟨rfl⟩
theorem ok9 : EntOk ⟨cs, tabF tab, kwF tab⟩ e9 := ⟨⟨rfl, rfl, rfl, by decide +kernel, rfl, by decide +kernel, by decide +kernel⟩, by kernel_rfl, rfl, by decide +kernel⟩
instance : Has prg 3 f3 := ⟨rfl⟩
theorem ok10 : EntOk ⟨cs, tabF tab, kwF tab⟩ e10 := ⟨⟨rfl, rfl, rfl, by decide +kernel, rfl, by decide +kernel, by decide +kernel⟩, by kernel_rfl, rfl, by decide +kernel⟩
instance : Has prg 17 f17 := ⟨rfl⟩
theorem ok11 : EntOk ⟨cs, tabF tab, kwF tab⟩ e11 := ⟨⟨rfl, rfl, rfl, by decide +kernel, rfl, by decide +kernel, by decide +kernel⟩, by kernel_rfl, rfl, by decide +kernel⟩
instance : Has prg 161 f161 := ⟨rfl⟩
theorem ok12 : EntOk ⟨cs, tabF tab, kwF tab⟩ e12 := ⟨⟨rfl, rfl, rfl, by decide +kernel, rfl, by decide +kernel, by decide +kernel⟩, by kernel_rfl, rfl, by decide +kernel⟩
instance : Has prg 7 f7 := ⟨rfl⟩
theorem ok13 : EntOk ⟨cs, tabF tab, kwF tab⟩ e13 := ⟨⟨rfl, rfl, rfl, by decide +kernel, rfl, by decide +kernel, by decide +kernel⟩, by kernel_rfl, rfl, by decide +kernel⟩
instance : Has prg 8 f8 := ⟨rfl⟩
theorem ok14 : EntOk ⟨cs, tabF tab, kwF tab⟩ e14 := ⟨⟨rfl, rfl, rfl, by decide +kernel, rfl, by decide +kernel, by decide +kernel⟩, by kernel_rfl, rfl, by decide +kernel⟩
instance : Has prg 139 f139 := ⟨rfl⟩
theorem ok15 : EntOk ⟨cs, tabF tab, kwF tab⟩ e15 := ⟨⟨rfl, rfl, rfl, by decide +kernel, rfl, by decide +kernel, by decide +kernel⟩, by kernel_rfl, rfl, by decide +kernel⟩
instance : Has prg 165 f165 := ⟨rfl⟩
theorem ok16 : EntOk ⟨cs, tabF tab, kwF tab⟩ e16 := ⟨⟨rfl, rfl, rfl, by decide +kernel, rfl, by decide +kernel, by decide +kernel⟩, by kernel_rfl, rfl, by decide +kernel⟩
instance : Has prg 196 f196 := ⟨rfl⟩
theorem ok17 : EntOk ⟨cs, tabF tab, kwF tab⟩ e17 := ⟨⟨rfl, rfl, rfl, by decide +kernel, rfl, by decide +kernel, by decide +kernel⟩, by kernel_rfl, rfl, by decide +kernel⟩
instance : Has prg 197 f197 := ⟨rfl⟩
theorem ok18 : EntOk ⟨cs, tabF tab, kwF tab⟩ e18 := ⟨⟨rfl, rfl, rfl, by decide +kernel, rfl, by decide +kernel, by decide +kernel⟩, by kernel_rfl, rfl, by decide +kernel⟩
instance : Has prg 10 f10 := ⟨rfl⟩
theorem ok19 : EntOk ⟨cs, tabF tab, kwF tab⟩ e19 := ⟨⟨rfl, rfl, rfl, by decide +kernel, rfl, by decide +kernel, by decide +kernel⟩, by kernel_rfl, rfl, by decide +kernel⟩
instance : Has prg 37 f37 := ⟨rfl⟩
theorem ok20 : EntOk ⟨cs, tabF tab, kwF tab⟩ e20 := ⟨⟨rfl, rfl, rfl, by decide +kernel, rfl, by decide +kernel, by decide +kernel⟩, by kernel_rfl, rfl, by decide +kernel⟩
instance : Has prg 198 f198 := ⟨rfl⟩
theorem ok21 : EntOk ⟨cs, tabF tab, kwF tab⟩ e21 := ⟨⟨rfl, rfl, rfl, by decide +kernel, rfl, by decide +kernel, by decide +kernel⟩, by kernel_rfl, rfl, by decide +kernel⟩
instance : Has prg 39 f39 := ⟨rfl⟩
theorem ok22 : EntOk ⟨cs, tabF tab, kwF tab⟩ e22 := ⟨⟨rfl, rfl, rfl, by decide +kernel, rfl, by decide +kernel, by decide +kernel⟩, by kernel_rfl, rfl, by decide +kernel⟩
instance : Has prg 199 f199 := ⟨rfl⟩
theorem ok23 : EntOk ⟨cs, tabF tab, kwF tab⟩ e23 := ⟨⟨rfl, rfl, rfl, by decide +kernel, rfl, by decide +kernel, by decide +kernel⟩, by kernel_rfl, rfl, by decide +kernel⟩
end Z


set_option Elab.async false
set_option linter.all false
set_option maxRecDepth 100000
namespace Z
theorem has (P : Nat → Option Fn) (i : Nat) (f : Fn) [h : Has P i f] : P i = some f := h.eq
/-- a place of draws -/
def Dr (d : D) : Prop := ∃ a b : Int, d = .lst true [.int a, .int b] ∧ 0 ≤ a ∧ 0 ≤ b
/-- all are so -/
def All (p : D → Prop) (xs : List D) : Prop := ∀ x ∈ xs, p x
theorem at_in {xs : List D} {i : Int} (h0 : 0 ≤ i) (h1 : i < xs.length) : ∃ x, at_ xs i = some x ∧ x ∈ xs := by
  have h : i.toNat < xs.length := by omega
  refine ⟨xs[i.toNat], ?_, List.getElem_mem _⟩
  unfold at_ ixOf
  rw [if_pos h0, if_pos h1]
  simp [h]
theorem ats_in {xs : List Nat} {i : Int} (h0 : 0 ≤ i) (h1 : i < xs.length) : ∃ x, at_ xs i = some x ∧ x ∈ xs := by
  have h : i.toNat < xs.length := by omega
  refine ⟨xs[i.toNat], ?_, List.getElem_mem _⟩
  unfold at_ ixOf
  rw [if_pos h0, if_pos h1]
  simp [h]
theorem own_mem {xs : List D} (h : ownL xs = false) {x : D} (m : x ∈ xs) : x.own = false := by
  induction xs with
  | nil => cases m
  | cons y ys ih =>
    simp at h
    rcases List.mem_cons.mp m with m | m
    · subst m; exact h.1
    · exact ih h.2 m
@[simp] theorem endOf_f {d : D} : endOf false d = some none := rfl
@[simp] theorem endOf_t {i : Int} : endOf true (.int i) = some (some i) := rfl
@[simp] theorem slice3_s {p q : Bool} {s : List Nat} {l h : D} : slice3 p q (.str s) l h = (endOf p l).bind fun l => (endOf q h).bind fun h => if s.length ≤ SL then some (.str (cut s l h)) else none := rfl
theorem cut_len {α : Type} {xs : List α} {l h : Option Int} : (cut xs l h).length ≤ xs.length := by
  unfold cut
  rw [List.length_take, List.length_drop]
  omega
/-- a text of at most n signs -/
def Tx (n : Nat) (d : D) : Prop := ∃ s, d = .str s ∧ s.length ≤ n
theorem strs_ok {n : Nat} : ∀ {xs : List D}, All (Tx n) xs → ∃ ss, strsOf xs = some ss ∧ ss.length = xs.length ∧ (ss.map List.length).sum ≤ xs.length * n
  | [], _ => ⟨[], rfl, rfl, by simp⟩
  | x :: xs, h => by
    obtain ⟨s, rfl, hs⟩ := h x List.mem_cons_self
    obtain ⟨ss, e1, e2, e3⟩ := strs_ok (xs := xs) fun y hy => h y (List.mem_cons_of_mem _ hy)
    refine ⟨s :: ss, by simp [strsOf, e1], by simp [e2], ?_⟩
    simp only [List.map_cons, List.sum_cons, List.length_cons, Nat.add_mul]
    omega
theorem joined_len {sep : List Nat} : ∀ ss : List (List Nat), (joined sep ss).length ≤ (ss.map List.length).sum + ss.length * sep.length
  | [] => by simp [joined]
  | [x] => by simp [joined]
  | x :: y :: r => by
    have ih := joined_len (sep := sep) (y :: r)
    simp only [joined, List.length_append, List.map_cons, List.sum_cons, List.length_cons, Nat.add_mul] at ih ⊢
    omega
theorem join_ok {n m : Nat} {sep : List Nat} {o : Bool} {xs : List D} (h : All (Tx n) xs) (hl : xs.length ≤ m) (hb : m * n + m * sep.length ≤ SL) : ∃ s, op2 .join (.str sep) (.lst o xs) = some (.str s) ∧ s.length ≤ m * n + m * sep.length := by
  obtain ⟨ss, e1, e2, e3⟩ := strs_ok h
  have h1 : xs.length * n ≤ m * n := Nat.mul_le_mul_right _ hl
  have h2 : ss.length * sep.length ≤ m * sep.length := Nat.mul_le_mul_right _ (by omega)
  refine ⟨joined sep ss, ?_, Nat.le_trans (joined_len ss) (by omega)⟩
  simp only [o_join, e1, Option.bind_some]
  rw [if_pos (by omega)]
theorem All.nil {p : D → Prop} : All p [] := fun x h => nomatch h
theorem All.snoc {p : D → Prop} {xs : List D} {x : D} (h : All p xs) (hx : p x) : All p (xs ++ [x]) := fun y hy => by
  rcases List.mem_append.mp hy with q | q
  · exact h y q
  · rw [List.mem_singleton.mp q]; exact hx
theorem rng1_ok {i : Int} (h1 : 0 ≤ i) (h2 : i ≤ 1000000) : rng1 i = some (rangeUp 0 i.toNat) := by
  unfold rng1
  rw [if_pos (by omega)]
abbrev SLv : Nat := 16777216
@[simp] theorem SL_eq : SL = 16777216 := rfl
def sgn : List Nat := [46, 97, 98, 99, 100, 101, 102, 103, 104, 105, 106, 107, 108, 109, 110, 111, 112, 113, 114, 115, 116, 117, 118, 119, 120, 121, 122]
def lets : List Nat := [97, 98, 99, 100, 101, 102, 103, 104, 105, 106, 107, 108, 109, 110, 111, 112, 113, 114, 115, 116, 117, 118, 119, 120, 121, 122]
theorem cut_n {s : List Nat} {i : Int} {n : Nat} (h0 : 0 ≤ i) (h1 : i.toNat + n ≤ s.length) : (cut s (some i) (some (i + n))).length = n := by
  unfold cut sIx
  simp only [List.length_take, List.length_drop]
  rw [if_neg (by omega), if_neg (by omega)]
  omega
section
variable {d : D}
/-- what is asked: no owned thing, no long text -/
def Th (d : D) : Prop := d.own = false ∧ ∀ s, d = .str s → s.length ≤ 5000
theorem th_str {s : List Nat} (h : s.length ≤ 5000) : Th (.str s) := ⟨rfl, fun t e => by cases e; exact h⟩
theorem tx_th {n : Nat} {d : D} (hn : n ≤ 5000) (h : Tx n d) : Th d := by
  obtain ⟨s, rfl, h⟩ := h
  exact th_str (by omega)
theorem th_frz {d : D} (h : Th d) : Th d.frz := by
  refine ⟨frz_own d, fun s e => ?_⟩
  cases d with
  | str t => exact h.2 s e
  | _ => cases e
theorem th_no {d : D} (h : d.own = false) (hs : d.isStrB = false) : Th d := ⟨h, fun s e => by subst e; cases hs⟩
theorem all_cons {p : D → Prop} {x : D} {xs : List D} (h : p x) (hs : All p xs) : All p (x :: xs) := fun y hy => by
  rcases List.mem_cons.mp hy with q | q
  · subst q; exact h
  · exact hs y q
end
def chrs (s : List Nat) : List D := s.map fun c => .str [c]
theorem chrs_own : ∀ s : List Nat, ownL (chrs s) = false
  | [] => rfl
  | c :: s => chrs_own s
theorem chrs_len (s : List Nat) : (chrs s).length = s.length := List.length_map ..
theorem chrs_mem {s : List Nat} {x : D} (h : x ∈ chrs s) : ∃ c, x = .str [c] ∧ c ∈ s := by
  obtain ⟨c, hc, rfl⟩ := List.mem_map.mp h
  exact ⟨c, rfl, hc⟩
/-- is the sign in t -/
def inB (t : List Nat) : D → Bool
  | .str s => infixB s t
  | _ => false
@[simp] theorem inOf_s {s t : List Nat} : inOf (.str s) (.str t) = some (infixB s t) := rfl
theorem truths_bl {α : Type} (f : α → Bool) : ∀ xs : List α, truths (xs.map fun x => .bl (f x)) = some (xs.map f)
  | [] => rfl
  | x :: xs => by simp [truths, truths_bl f xs]
theorem fm_some {α β : Type} (f : α → β) : ∀ xs : List α, xs.filterMap (fun x => some (f x)) = xs.map f
  | [] => rfl
  | x :: xs => by simp [fm_some f xs]
section
theorem own_i {x : D} (h : x.isStrB = true) : ∃ s, x = .str s := by cases x <;> first | exact ⟨_, rfl⟩ | cases h
end
theorem eqOf_nil {o p : Bool} {xs : List D} (h : depL xs ≤ 63) : eqOf (.lst o xs) (.lst p []) = some xs.isEmpty := by
  unfold eqOf
  rw [if_pos (by simp [D.dep, depL]; omega)]
  cases xs <;> rfl
theorem rangeUp_mem : ∀ (n : Nat) (lo : Int) (x : D), x ∈ rangeUp lo n → ∃ j, x = .int j ∧ lo ≤ j ∧ j < lo + n
  | n + 1, lo, x, h => by
    rcases List.mem_cons.mp h with q | q
    · exact ⟨lo, q, by omega, by omega⟩
    · obtain ⟨j, e, h1, h2⟩ := rangeUp_mem n (lo + 1) x q
      exact ⟨j, e, by omega, by omega⟩
theorem frz_ints : ∀ ns : List Int, frzL (ns.map .int) = ns.map .int
  | [] => rfl
  | n :: ns => by simp [frz_ints ns]
mutual
theorem frz_frz : ∀ d : D, d.frz.frz = d.frz
  | .non => rfl
  | .bl _ => rfl
  | .int _ => rfl
  | .str _ => rfl
  | .tup xs => by simp only [D.frz, frzL_frz xs]
  | .lst _ xs => by simp only [D.frz, frzL_frz xs]
  | .dct _ xs => by simp only [D.frz, frzP_frz xs]
  | .set _ xs => by simp only [D.frz, frzL_frz xs]
  | .ins _ _ xs => by simp only [D.frz, frzF_frz xs]
theorem frzL_frz : ∀ xs : List D, frzL (frzL xs) = frzL xs
  | [] => rfl
  | x :: xs => by simp only [frzL, frz_frz x, frzL_frz xs]
theorem frzP_frz : ∀ xs : List (D × D), frzP (frzP xs) = frzP xs
  | [] => rfl
  | (x, y) :: xs => by simp only [frzP, frz_frz x, frz_frz y, frzP_frz xs]
theorem frzF_frz : ∀ xs : List (Nat × D), frzF (frzF xs) = frzF xs
  | [] => rfl
  | (x, y) :: xs => by simp only [frzF, frz_frz y, frzF_frz xs]
end
theorem all_own : ∀ {xs : List D}, All Th xs → ownL xs = false
  | [], _ => rfl
  | x :: xs, h => by
    rw [own_cons, (h x List.mem_cons_self).1, all_own fun y hy => h y (List.mem_cons_of_mem _ hy)]
    rfl
end Z

set_option Elab.async false
set_option linter.all false
set_option maxRecDepth 100000
namespace Z
def isDraw (P : Nat → Option Fn) (f : Nat) : Prop := P f = some ⟨[true, false], 4, b2⟩
theorem draw_ok {P : Nat → Option Fn} {f : Nat} (hP : isDraw P f) {k : Nat} {d : D} {m : Int} (hd : Dr d) (h1 : 1 ≤ m) (h2 : m ≤ 268435456) :
    (run P (k + 1) f [d, .int m]).Ok fun r io => ∃ r' d', r = .int r' ∧ 0 ≤ r' ∧ r' < m ∧ Dr d' ∧ io = [some d', none] := by
  obtain ⟨a, b, rfl, ha, hb⟩ := hd
  refine cok_run hP rfl ?_
  have g1 : 0 < m := by omega
  have g2 : m < 1073741824 := by omega
  have e1 : 0 ≤ a % m := Int.emod_nonneg _ (by omega)
  have e2 : a % m < m := Int.emod_lt_of_pos _ g1
  have e3 : 0 ≤ a / m := Int.ediv_nonneg ha (by omega)
  simp [b2, g1, g2]
  refine ⟨fun h => ?_, fun h => ?_⟩
  · exact ⟨e1, e2, _, _, rfl, e3, hb⟩
  · refine w_wh (fun n s => ∃ (w f b' : Int), s = [some (.lst true [.int a, .int b']), some (.int m), some (.int f), some (.int w)] ∧ 0 ≤ b' ∧ 0 ≤ f ∧ 1 ≤ w ∧ (n = 1 → w = 1) ∧ (n = 0 → 268435456 ≤ w) ∧ n ≤ 1) 1 (by decide) ⟨1, 0, b, rfl, hb, by omega, by omega, fun _ => rfl, by omega, by omega⟩ ?_
    intro n s hs
    obtain ⟨w, f, b', rfl, i1, i2, i3, i4, i5, i6⟩ := hs
    simp [g1]
    refine ⟨fun hw => ⟨0, by omega, mulOk_b (by decide), mulOk_b (by decide), mulOk_a ?_, mulOk_b (by decide), _, _, _, ⟨rfl, rfl, rfl⟩, ?_, ?_, by omega, by omega, by omega, by omega⟩, fun hw => ⟨Int.emod_nonneg _ (by omega), Int.emod_lt_of_pos _ g1, _, _, rfl, ha, i1⟩⟩
    · omega
    · omega
    · refine Int.add_nonneg (by omega) (Int.ediv_nonneg (Int.emod_nonneg _ (by decide)) (by decide))
def isOf (P : Nat → Option Fn) (f : Nat) : Prop := P f = some ⟨[true, false], 2, b3⟩
/-- one of a list -/
theorem of_list {P : Nat → Option Fn} {f : Nat} (h2 : isDraw P 2) (hP : isOf P f) {k : Nat} {d : D} {o : Bool} {xs : List D} (hd : Dr d) (h1 : xs ≠ []) (hl : xs.length ≤ 1000) (hn : ownL xs = false) :
    (run P (k + 2) f [d, .lst o xs]).Ok fun r io => ∃ d', r ∈ xs ∧ Dr d' ∧ io = [some d', none] := by
  refine cok_run hP rfl ?_
  simp [b3]
  have hp : 0 < xs.length := List.length_pos_iff.mpr h1
  refine (draw_ok h2 hd (by omega) (by omega)).mono fun r io h => ?_
  obtain ⟨r', d', rfl, q1, q2, hd', rfl⟩ := h
  obtain ⟨x, e, m⟩ := at_in q1 q2
  simp [e]
  exact ⟨own_mem hn m, m, hd'⟩

section
variable {P : Nat → Option Fn} {k : Nat} {d : D}
theorem h2 [Has P 2 f2] : isDraw P 2 := has P 2 f2
theorem h3 [Has P 3 f3] : isOf P 3 := has P 3 f3
/-- one sign of a text -/
theorem of_str [Has P 2 f2] [Has P 3 f3] {s : List Nat} (hd : Dr d) (h1 : s ≠ []) (hl : s.length ≤ 1000) :
    (run P (k + 2) 3 [d, .str s]).Ok fun r io => ∃ d' c, r = .str [c] ∧ c ∈ s ∧ Dr d' ∧ io = [some d', none] := by
  refine cok_run h3 rfl ?_
  have hp : 0 < s.length := List.length_pos_iff.mpr h1
  have hs : s.length ≤ 16777216 := by omega
  simp [b3, hs]
  refine (draw_ok h2 hd (by omega) (by omega)).mono fun r io h => ?_
  obtain ⟨r', d', rfl, q1, q2, hd', rfl⟩ := h
  obtain ⟨x, e, m⟩ := ats_in q1 q2
  simp [e, hs]
  exact ⟨m, hd'⟩
theorem at_ints {ns : List Int} {i : Int} (h0 : 0 ≤ i) (h1 : i < ns.length) : ∃ x, at_ (ns.map D.int) i = some (.int x) := by
  obtain ⟨x, e, m⟩ := at_in (xs := ns.map D.int) h0 (by simpa using h1)
  obtain ⟨y, _, rfl⟩ := List.mem_map.mp m
  exact ⟨y, e⟩
theorem draws_ok [Has P 4 f4] {ns : List Int} {o : Bool} {j : Int} (hj : 0 ≤ j) (hn : ns.length ≤ 63) : (run P (k + 1) 4 [.lst o (ns.map .int), .int j]).Ok fun r io => Dr r ∧ io = [none, none] := by
  refine cok_run (fn := ⟨[false, false], 3, b4⟩) (has P 4 f4) rfl ?_
  refine w_cut (fun s => s = [some (.lst o (ns.map .int)), some (.int j), some (.int (15485863 * j))]) ?_ fun s e => ?_
  · simp [mulOk_a (i := 15485863) (j := j) (by decide)]
  subst e
  refine w_cut (fun s => ∃ c, s = [some (.lst o (ns.map .int)), some (.int j), some (.int c)] ∧ 0 ≤ c) ?_ fun s h => ?_
  · simp
    refine ⟨fun h => ?_, fun h => ⟨fun h2 => ?_, fun h2 => by omega⟩⟩
    · obtain ⟨x, e⟩ := at_ints hj h
      simp [e]
      refine ⟨by decide, by decide, by decide, by decide, Int.emod_nonneg _ (by decide)⟩
    · obtain ⟨x, e⟩ := at_ints (ns := ns) (i := j % ns.length) (Int.emod_nonneg _ (by omega)) (Int.emod_lt_of_pos _ (by omega))
      refine ⟨h2, _, e, _, rfl, mulOk_a (by decide), _, rfl, _, rfl, ?_⟩
      have := Int.emod_nonneg x (show (1000000000000000 : Int) ≠ 0 by decide)
      omega
  · obtain ⟨c, rfl, hc⟩ := h
    simp
    have hb : ∀ b : Bool, (b2i b).natAbs < 18446744073709551616 ∧ 0 ≤ b2i b := by decide
    refine ⟨mulOk_b (hb _).1, mulOk_b (by decide), mulOk_a (by decide), _, _, rfl, Int.mul_nonneg hc (hb _).2, by omega⟩
end
end Z

set_option Elab.async false
set_option linter.all false
set_option maxRecDepth 100000
namespace Z
section
variable {P : Nat → Option Fn} {k : Nat} {d : D}
theorem signs_ok [Has P 5 f5] : (run P (k + 1) 5 []).Ok fun r io => r = .str sgn ∧ io = [] := by
  refine cok_run (fn := ⟨[], 0, b5⟩) (has P 5 f5) rfl ?_
  simp [b5, sgn]
end
end Z

set_option Elab.async false
set_option linter.all false
set_option maxRecDepth 100000
namespace Z
section
variable {P : Nat → Option Fn} {k : Nat} {d : D}
theorem few_ok [Has P 2 f2] [Has P 5 f5] [Has P 6 f6] (hd : Dr d) : (run P (k + 2) 6 [d]).Ok fun r io => ∃ g d', r = .str g ∧ g ≠ [] ∧ g.length ≤ 3 ∧ Dr d' ∧ io = [some d'] := by
  refine cok_run (fn := ⟨[true], 2, b6⟩) (has P 6 f6) rfl ?_
  simp [b6]
  refine (draw_ok h2 hd (by omega) (by omega)).mono fun r io h => ?_
  obtain ⟨r', d', rfl, q1, q2, hd', rfl⟩ := h
  simp
  refine signs_ok.mono fun r io h => ?_
  obtain ⟨rfl, rfl⟩ := h
  have hs : sgn.length = 27 := rfl
  simp [hs]
  refine (draw_ok h2 hd' (by omega) (by omega)).mono fun r io h => ?_
  obtain ⟨r2, d2, rfl, p1, p2, hd2, rfl⟩ := h
  obtain ⟨x, e, m⟩ := at_in (xs := [.str [46, 97], .str [97, 98], .str [97, 98, 122], .str [46, 97, 98], .str (cut sgn (some r') (some (r' + 3)))]) p1 (by simpa using p2)
  have hc : (cut sgn (some r') (some (r' + 3))).length = 3 := cut_n (n := 3) q1 (by rw [hs]; omega)
  simp [e]
  simp only [List.mem_cons, List.not_mem_nil, or_false] at m
  rcases m with rfl | rfl | rfl | rfl | rfl
  · exact ⟨_, rfl, by simp, by simp, hd2⟩
  · exact ⟨_, rfl, by simp, by simp, hd2⟩
  · exact ⟨_, rfl, by simp, by simp, hd2⟩
  · exact ⟨_, rfl, by simp, by simp, hd2⟩
  · exact ⟨_, rfl, fun z => by rw [z] at hc; simp at hc, by omega, hd2⟩
end
end Z

set_option Elab.async false
set_option linter.all false
set_option maxRecDepth 100000
namespace Z
section
variable {P : Nat → Option Fn} {k : Nat} {d : D}
def I17 (g : List Nat) (m : Int) (n : Nat) (xs : List D) (e : Env) : Prop := ∃ d t w4 w5, e = [some d, some (.str g), some (.int m), some (.str t), w4, w5] ∧ Dr d ∧ t.length + xs.length ≤ n
theorem marks_ok [Has P 2 f2] [Has P 3 f3] [Has P 17 f17] {g : List Nat} {n : Nat} (hd : Dr d) (h1 : g ≠ []) (hl : g.length ≤ 1000) (n1 : 1 ≤ n) (n2 : n ≤ 1000) :
    (run P (k + 3) 17 [d, .str g, .int n]).Ok fun r io => ∃ d', Tx n r ∧ Dr d' ∧ io = [some d', none, none] := by
  refine cok_run (fn := ⟨[true, false, false], 6, b17⟩) (has P 17 f17) rfl ?_
  have gl : g.length ≤ 16777216 := by omega
  have gp : 0 < g.length := List.length_pos_iff.mpr h1
  simp [b17]
  refine w_for (I17 g n n) ?_ (fun x r e he => ?_) fun e he => ?_
  · simp
    refine (draw_ok h2 hd (by omega) (by omega)).mono fun r io h => ?_
    obtain ⟨r', d', rfl, q1, q2, hd', rfl⟩ := h
    simp
    exact ⟨_, rng1_ok (by omega) (by omega), _, _, _, _, rfl, hd', by rw [rangeUp_len]; simp; omega⟩
  · obtain ⟨d1, t, w4, w5, rfl, hd1, ht⟩ := he
    refine ⟨_, rfl, ?_⟩
    simp at ht
    simp [gl]
    refine (draw_ok h2 hd1 (by omega) (by omega)).mono fun r io h => ?_
    obtain ⟨r', d2, rfl, q1, q2, hd2, rfl⟩ := h
    obtain ⟨c, e1, _⟩ := ats_in q1 q2
    obtain ⟨c0, e0, _⟩ := ats_in (xs := g) (i := 0) (by omega) (by omega)
    simp [gl, e1, e0]
    refine (of_list (xs := [.str [c], .str [c0], .str [42], .str [63]]) h2 h3 hd2 (by simp) (by simp) (by simp)).mono fun r2 io h => ?_
    obtain ⟨d3, m, hd3, rfl⟩ := h
    have tl : t.length ≤ 16777215 := by omega
    have tl2 : t.length ≤ 16777216 := by omega
    have hr : ∃ c, r2 = .str [c] := by
      simp only [List.mem_cons, List.not_mem_nil, or_false] at m
      rcases m with rfl | rfl | rfl | rfl <;> exact ⟨_, rfl⟩
    obtain ⟨c, rfl⟩ := hr
    have done : ∀ u, u.length ≤ t.length + 1 → I17 g n n r [some d3, some (.str g), some (.int n), some (.str u), some x, some (.str [c])] := fun u hu => ⟨_, _, _, _, rfl, hd3, by omega⟩
    have y1 := done (t ++ [c]) (by simp)
    have y0 := done t (by omega)
    simp [tl, tl2]
    by_cases hc : c = 42
    · simp [hc] at y1 y0 ⊢
      by_cases ht : cut t (some (-1)) none = [42]
      · simp [ht]
        exact y0
      · simp [ht]
        exact y1
    · simp [hc]
      exact y1
  · obtain ⟨d1, t, w4, w5, rfl, hd1, ht⟩ := he
    simp
    exact ⟨⟨_, rfl, by simpa using ht⟩, hd1⟩
def I18 (g : List Nat) (a m : Int) (n : Nat) (xs : List D) (e : Env) : Prop := ∃ d acc w5, e = [some d, some (.str g), some (.int a), some (.int m), some (.lst true acc), w5] ∧ Dr d ∧ All (Tx (n + 1)) acc ∧ acc.length + xs.length ≤ a
theorem pattern_ok [Has P 2 f2] [Has P 3 f3] [Has P 17 f17] [Has P 161 f161] {g : List Nat} {n a : Nat} (hd : Dr d) (h1 : g ≠ []) (hl : g.length ≤ 1000) (n1 : 1 ≤ n) (n2 : n ≤ 100) (a1 : 1 ≤ a) (a2 : a ≤ 100) :
    (run P (k + 4) 161 [d, .str g, .int a, .int n]).Ok fun r io => ∃ d', Tx (a * (n + 1) + a) r ∧ Dr d' ∧ io = [some d', none, none, none] := by
  refine cok_run (fn := ⟨[true, false, false, false], 6, b161⟩) (has P 161 f161) rfl ?_
  simp [b161]
  refine w_for (I18 g a n n) ?_ (fun x r e he => ?_) fun e he => ?_
  · simp
    refine (draw_ok h2 hd (by omega) (by omega)).mono fun r io h => ?_
    obtain ⟨r', d', rfl, q1, q2, hd', rfl⟩ := h
    simp
    exact ⟨_, rng1_ok (by omega) (by omega), _, _, _, rfl, hd', All.nil, by rw [rangeUp_len]; simp; omega⟩
  · obtain ⟨d1, acc, w5, rfl, hd1, ha, hc⟩ := he
    refine ⟨_, rfl, ?_⟩
    simp at hc
    have al : acc.length < 16777216 := by omega
    simp [al]
    refine (draw_ok h2 hd1 (by omega) (by omega)).mono fun r2 io h => ?_
    obtain ⟨r', d2, rfl, q1, q2, hd2, rfl⟩ := h
    by_cases hr : r' = 0
    · simp [hr, al]
      exact ⟨_, _, _, rfl, hd2, ha.snoc ⟨_, rfl, by simp; omega⟩, by simp; omega⟩
    · simp [hr]
      refine (marks_ok hd2 h1 hl n1 (by omega)).mono fun r2 io h => ?_
      obtain ⟨d3, ⟨t, rfl, ht⟩, hd3, rfl⟩ := h
      simp [al]
      exact ⟨_, _, _, rfl, hd3, ha.snoc ⟨_, rfl, by omega⟩, by simp; omega⟩
  · obtain ⟨d1, acc, w5, rfl, hd1, ha, hc⟩ := he
    simp
    have hc : acc.length ≤ a := by simpa using hc
    have hb : a * (n + 1) + a * 1 ≤ 16777216 := by
      have : a * (n + 1) ≤ 100 * 101 := Nat.mul_le_mul a2 (by omega)
      omega
    obtain ⟨t, e, ht⟩ := join_ok (sep := [47]) (o := true) ha hc hb
    exact ⟨_, e, ⟨t, rfl, by simpa using ht⟩, hd1⟩
end
end Z

set_option Elab.async false
set_option linter.all false
set_option maxRecDepth 100000
namespace Z
section
variable {P : Nat → Option Fn} {k : Nat} {d : D}
theorem truly_ok [Has P 10 f10] {a b : Bool} : (run P (k + 1) 10 [.bl a, .bl b]).Ok fun r io => r = .bl (a == b) ∧ io = [none, none] := by
  refine cok_run (fn := ⟨[false, false], 2, b10⟩) (has P 10 f10) rfl ?_
  simp [b10, D.isBoolB]
  cases a <;> cases b <;> simp
end
end Z

set_option Elab.async false
set_option linter.all false
set_option maxRecDepth 100000
namespace Z
theorem parts_bd : ∀ s : List Nat, (parts 47 s).length ≤ s.length + 1 ∧ ∀ p ∈ parts 47 s, p.length ≤ s.length
  | [] => ⟨by decide, fun p h => by simp [parts] at h; subst h; simp⟩
  | x :: xs => by
    obtain ⟨h1, h2⟩ := parts_bd xs
    have ep : parts 47 (x :: xs) = if x = 47 then [] :: parts 47 xs else match parts 47 xs with | [] => [[x]] | p :: ps => (x :: p) :: ps := rfl
    rw [ep]
    by_cases hx : x = 47
    · rw [if_pos hx]
      refine ⟨by simp; omega, fun p hp => ?_⟩
      rcases List.mem_cons.mp hp with q | q
      · subst q; simp
      · have := h2 p q; simp; omega
    · rw [if_neg hx]
      cases e : parts 47 xs with
      | nil => exact ⟨by simp, fun p hp => by simp at hp; subst hp; simp⟩
      | cons q qs =>
        rw [e] at h1 h2
        refine ⟨by simp at h1 ⊢; omega, fun p hp => ?_⟩
        rcases List.mem_cons.mp hp with z | z
        · subst z; have := h2 q List.mem_cons_self; simp; omega
        · have := h2 p (List.mem_cons_of_mem _ z); simp; omega
def strsD (ps : List (List Nat)) : List D := ps.map .str
theorem strsD_own : ∀ s : List (List Nat), ownL (strsD s) = false
  | [] => rfl
  | c :: s => strsD_own s
end Z

set_option Elab.async false
set_option linter.all false
set_option maxRecDepth 100000
/-! Patterns: what fits, by a table and by places. Plain Lean. -/
namespace Z
section
variable {α β : Type} (st : α → Bool) (mt : α → β → Bool)
def gM : List α → List β → Bool
  | [], [] => true
  | [], _ :: _ => false
  | a :: as, [] => st a && gM as []
  | a :: as, b :: bs => if st a then gM as (b :: bs) || gM (a :: as) bs else mt a b && gM as bs
termination_by as bs => as.length + bs.length
def gF (as : List α) (bs : List β) : Bool := gM st mt as.reverse bs.reverse
theorem gF_nn : gF st mt [] [] = true := by unfold gF; rw [List.reverse_nil, List.reverse_nil, gM]
theorem gF_ns (bs : List β) (b : β) : gF st mt [] (bs ++ [b]) = false := by
  unfold gF
  rw [List.reverse_append, List.reverse_nil]
  simp [gM]
theorem gF_sn (as : List α) (a : α) : gF st mt (as ++ [a]) [] = (st a && gF st mt as []) := by
  unfold gF
  rw [List.reverse_append]
  simp [gM]
theorem gF_ss (as : List α) (a : α) (bs : List β) (b : β) : gF st mt (as ++ [a]) (bs ++ [b]) = if st a then gF st mt as (bs ++ [b]) || gF st mt (as ++ [a]) bs else mt a b && gF st mt as bs := by
  unfold gF
  rw [List.reverse_append, List.reverse_append]
  simp [gM]
variable {st mt}
theorem snoc_cases {γ : Type} (bs : List γ) : bs = [] ∨ ∃ cs c, bs = cs ++ [c] := by
  rcases List.eq_nil_or_concat bs with h | ⟨cs, c, h⟩
  · exact .inl h
  · exact .inr ⟨cs, c, by simpa using h⟩
theorem gF_mono {as : List α} {a : α} {bs : List β} (hs : st a = true) (h : gF st mt as bs = true) : gF st mt (as ++ [a]) bs = true := by
  rcases snoc_cases bs with rfl | ⟨cs, c, rfl⟩
  · rw [gF_sn, hs, h]; rfl
  · rw [gF_ss, if_pos hs, h]; rfl
theorem gF_ext {as : List α} {a : α} {bs : List β} {b : β} (hs : st a = true) (h : gF st mt (as ++ [a]) bs = true) : gF st mt (as ++ [a]) (bs ++ [b]) = true := by
  rw [gF_ss, if_pos hs, h, Bool.or_true]
end
abbrev Pl := Nat × Nat
def stM (m : Nat) : Bool := m == 42
def mtM (m c : Nat) : Bool := m == 63 || m == c
def Mf : List Nat → List Nat → Bool := gF stM mtM
def stP (p : List Nat) : Bool := p == [42, 42]
def Bf : List (List Nat) → List (List Nat) → Bool := gF stP Mf
theorem take_s {α : Type} {xs : List α} {i : Nat} {x : α} (h : xs[i]? = some x) : xs.take (i + 1) = xs.take i ++ [x] := by
  rw [List.take_add_one, h]; rfl
def lvl (p : List Nat) (at_ : Nat) (u : List Nat) : Bool := if p[at_]? = some 42 then Mf (p.take (at_ + 1)) u else Mf (p.take at_) u
/-- the places after whole parts us and the signs u -/
def SP (Ps us : List (List Nat)) (u : List Nat) (q : Pl) : Prop := ∃ p, Ps[q.1]? = some p ∧ if p = [42, 42] then Bf (Ps.take (q.1 + 1)) us = true ∧ ((q.2 = 0 ∧ u = []) ∨ (q.2 = 1 ∧ u ≠ [])) else q.2 ≤ p.length ∧ Bf (Ps.take q.1) us = true ∧ lvl p q.2 u = true
def bes (Ps : List (List Nat)) (q : Pl) : List Pl := match Ps[q.1]? with
  | none => []
  | some p => if p = [42, 42] then (if q.2 = 0 ∧ q.1 + 1 < Ps.length then [(q.1 + 1, 0)] else []) else if p[q.2]? = some 42 then [(q.1, q.2 + 1)] else []
def nxs (Ps : List (List Nat)) (c : Nat) (q : Pl) : List Pl := match Ps[q.1]? with
  | none => []
  | some p => if p = [42, 42] then [(q.1, 1)] else if p[q.2]? = some c ∨ p[q.2]? = some 63 then [(q.1, q.2 + 1)] else if p[q.2]? = some 42 then [(q.1, q.2)] else []
def nst (Ps : List (List Nat)) (q : Pl) : List Pl := match Ps[q.1]? with
  | none => []
  | some p => if p = [42, 42] then (if q.2 = 1 then [(q.1, 0)] else []) else if q.2 = p.length ∧ q.1 + 1 < Ps.length then [(q.1 + 1, 0)] else []
def ends (Ps : List (List Nat)) (q : Pl) : Bool := match Ps[q.1]? with
  | none => false
  | some p => (if p = [42, 42] then q.2 == 1 else q.2 == p.length) && (Ps.drop (q.1 + 1)).all fun p => p == [42, 42]
/-- what is reached -/
inductive Cl (Ps : List (List Nat)) (I : Pl → Prop) : Pl → Prop where
  | base {q : Pl} : I q → Cl Ps I q
  | step {q r : Pl} : Cl Ps I q → r ∈ bes Ps q → Cl Ps I r
section
variable {Ps us : List (List Nat)} {u : List Nat}
theorem stP_t {p : List Nat} (h : p = [42, 42]) : stP p = true := by subst h; rfl
theorem stP_f {p : List Nat} (h : p ≠ [42, 42]) : stP p = false := by unfold stP; simpa using h
theorem lvl_0 (p : List Nat) : lvl p 0 [] = true := by
  unfold lvl
  split
  · rename_i h
    rw [take_s h, List.take_zero]
    unfold Mf
    rw [gF_sn, gF_nn]
    rfl
  · rw [List.take_zero]; exact gF_nn _ _
theorem SP_first {i : Nat} {p : List Nat} (hp : Ps[i]? = some p) (h : Bf (Ps.take i) us = true) : SP Ps us [] (i, 0) := by
  refine ⟨p, hp, ?_⟩
  split
  · rename_i e
    rw [take_s hp]
    exact ⟨gF_mono (stP_t e) h, .inl ⟨rfl, rfl⟩⟩
  · exact ⟨Nat.zero_le _, h, lvl_0 p⟩
theorem SP_bes {q r : Pl} (h : SP Ps us u q) (hr : r ∈ bes Ps q) : SP Ps us u r := by
  obtain ⟨p, hp, h⟩ := h
  unfold bes at hr
  rw [hp] at hr
  simp only at hr
  by_cases e : p = [42, 42]
  · rw [if_pos e] at h hr
    split at hr
    · rename_i h0
      obtain rfl : r = (q.1 + 1, 0) := by simpa using hr
      have hq : Ps[q.1 + 1]? = some Ps[q.1 + 1] := List.getElem?_eq_getElem h0.2
      rcases h.2 with ⟨_, rfl⟩ | ⟨z, _⟩
      · exact SP_first hq h.1
      · omega
    · cases hr
  · rw [if_neg e] at h hr
    split at hr
    · rename_i hm
      obtain rfl : r = (q.1, q.2 + 1) := by simpa using hr
      obtain ⟨h1, h2, h3⟩ := h
      have hlt : q.2 < p.length := by
        rcases Nat.lt_or_ge q.2 p.length with z | z
        · exact z
        · rw [List.getElem?_eq_none z] at hm; cases hm
      refine ⟨p, hp, ?_⟩
      rw [if_neg e]
      refine ⟨hlt, h2, ?_⟩
      unfold lvl at h3 ⊢
      rw [if_pos hm] at h3
      split
      · rename_i hm2
        rw [take_s hm2]
        exact gF_mono (by rfl) h3
      · exact h3
    · cases hr
theorem Cl_sub {I S : Pl → Prop} (hb : ∀ q, I q → S q) (hs : ∀ q r, S q → r ∈ bes Ps q → S r) : ∀ q, Cl Ps I q → S q := by
  intro q h
  induction h with
  | base h => exact hb _ h
  | step _ hr ih => exact hs _ _ ih hr
/-- at the start of a part: all is reached when the parts' starts are -/
theorem reach0 {T : Pl → Prop} (hT : ∀ q r, T q → r ∈ bes Ps q → T r) (hn : ∀ i p, Ps[i]? = some p → p ≠ [42, 42] → Bf (Ps.take i) us = true → T (i, 0)) (hs : ∀ i p, Ps[i]? = some p → p = [42, 42] → Bf (Ps.take (i + 1)) us = true → T (i, 0)) :
    ∀ q, SP Ps us [] q → T q := by
  intro ⟨i, a⟩ ⟨p, hp, h⟩
  simp only at hp h
  by_cases e : p = [42, 42]
  · rw [if_pos e] at h
    rcases h.2 with ⟨rfl, _⟩ | ⟨_, z⟩
    · exact hs i p hp e h.1
    · exact absurd rfl z
  · rw [if_neg e] at h
    obtain ⟨h1, h2, h3⟩ := h
    have key : ∀ a, a ≤ p.length → Mf (p.take a) [] = true → T (i, a) := by
      intro a
      induction a with
      | zero => intro _ _; exact hn i p hp e h2
      | succ a ih =>
        intro ha hm
        have hx : p[a]? = some p[a] := List.getElem?_eq_getElem (by omega)
        rw [take_s hx] at hm
        unfold Mf at hm
        rw [gF_sn, Bool.and_eq_true] at hm
        have h42 : p[a]? = some 42 := by
          rw [hx]
          have := hm.1
          simp only [stM, beq_iff_eq] at this
          rw [this]
        refine hT (i, a) (i, a + 1) (ih (by omega) hm.2) ?_
        unfold bes
        simp only [hp]
        rw [if_neg e, if_pos h42]
        exact List.mem_singleton.mpr rfl
    refine key a h1 ?_
    unfold lvl at h3
    split at h3
    · rename_i hm
      rw [take_s hm] at h3
      unfold Mf at h3
      rw [gF_sn, Bool.and_eq_true] at h3
      exact h3.2
    · exact h3
theorem bes_star {i : Nat} (hp : Ps[i]? = some [42, 42]) (hi : i + 1 < Ps.length) : (i + 1, 0) ∈ bes Ps (i, 0) := by
  unfold bes
  simp only [hp]
  simp [hi]
theorem lt_of {α : Type} {xs : List α} {i : Nat} {x : α} (h : xs[i]? = some x) : i < xs.length := by
  rcases Nat.lt_or_ge i xs.length with z | z
  · exact z
  · rw [List.getElem?_eq_none z] at h; cases h
theorem start_iff : ∀ q, Cl Ps (fun q => q = (0, 0) ∧ 0 < Ps.length) q ↔ SP Ps [] [] q := by
  intro q
  constructor
  · refine Cl_sub (fun q h => ?_) (fun q r h hr => SP_bes h hr) q
    obtain ⟨rfl, h⟩ := h
    exact SP_first (p := Ps[0]) (List.getElem?_eq_getElem h) (by rw [List.take_zero]; exact gF_nn _ _)
  · have ent : ∀ i, i < Ps.length → Bf (Ps.take i) [] = true → Cl Ps (fun q => q = (0, 0) ∧ 0 < Ps.length) (i, 0) := by
      intro i
      induction i with
      | zero => intro h _; exact .base ⟨rfl, h⟩
      | succ i ih =>
        intro h hb
        have hx : Ps[i]? = some Ps[i] := List.getElem?_eq_getElem (by omega)
        rw [take_s hx] at hb
        unfold Bf at hb
        rw [gF_sn, Bool.and_eq_true] at hb
        refine .step (ih (by omega) hb.2) (bes_star ?_ h)
        have := hb.1
        simp only [stP, beq_iff_eq] at this
        rw [hx, this]
    refine reach0 (fun q r h hr => .step h hr) (fun i p hp _ hb => ent i (lt_of hp) hb) (fun i p hp he hb => ?_) q
    rw [take_s hp] at hb
    unfold Bf at hb
    rw [gF_sn, Bool.and_eq_true] at hb
    exact ent i (lt_of hp) hb.2
theorem stroke_iff (hu : u ≠ []) : ∀ q, Cl Ps (fun q => ∃ p, SP Ps us u p ∧ q ∈ nst Ps p) q ↔ SP Ps (us ++ [u]) [] q := by
  intro q
  constructor
  · refine Cl_sub (fun q h => ?_) (fun q r h hr => SP_bes h hr) q
    obtain ⟨⟨i, a⟩, ⟨p, hp, h⟩, hq⟩ := h
    simp only at hp h
    unfold nst at hq
    simp only [hp] at hq
    by_cases e : p = [42, 42]
    · rw [if_pos e] at h hq
      split at hq
      · obtain rfl : q = (i, 0) := by simpa using hq
        refine ⟨p, hp, ?_⟩
        rw [if_pos e]
        have h1 := h.1
        rw [take_s hp] at h1 ⊢
        exact ⟨gF_ext (stP_t e) h1, .inl ⟨rfl, rfl⟩⟩
      · cases hq
    · rw [if_neg e] at h hq
      split at hq
      · rename_i ha
        obtain rfl : q = (i + 1, 0) := by simpa using hq
        obtain ⟨rfl, hi⟩ := ha
        refine SP_first (p := Ps[i + 1]) (List.getElem?_eq_getElem hi) ?_
        rw [take_s hp]
        unfold Bf
        rw [gF_ss, if_neg (by rw [stP_f e]; simp)]
        have h3 := h.2.2
        unfold lvl at h3
        rw [if_neg (by simp), List.take_length] at h3
        rw [h3]
        exact h.2.1
      · cases hq
  · have star : ∀ i, Ps[i]? = some [42, 42] → Bf (Ps.take (i + 1)) us = true → Cl Ps (fun q => ∃ p, SP Ps us u p ∧ q ∈ nst Ps p) (i, 0) := fun i hp hb => by
      refine .base ⟨(i, 1), ⟨_, hp, ?_⟩, ?_⟩
      · rw [if_pos rfl]
        exact ⟨hb, .inr ⟨rfl, hu⟩⟩
      · unfold nst
        simp only [hp]
        simp
    have ent : ∀ i, i < Ps.length → Bf (Ps.take i) (us ++ [u]) = true → Cl Ps (fun q => ∃ p, SP Ps us u p ∧ q ∈ nst Ps p) (i, 0) := by
      intro i
      induction i with
      | zero =>
        intro _ hb
        rw [List.take_zero] at hb
        unfold Bf at hb
        rw [gF_ns] at hb
        cases hb
      | succ i ih =>
        intro h hb
        have hx : Ps[i]? = some Ps[i] := List.getElem?_eq_getElem (by omega)
        by_cases e : Ps[i] = [42, 42]
        · rw [e] at hx
          have hb2 := hb
          rw [take_s hx] at hb2
          unfold Bf at hb2
          rw [gF_ss, if_pos (by rfl), Bool.or_eq_true] at hb2
          rcases hb2 with z | z
          · exact .step (ih (by omega) z) (bes_star hx h)
          · exact .step (star i hx (by rw [take_s hx]; exact z)) (bes_star hx h)
        · rw [take_s hx] at hb
          unfold Bf at hb
          rw [gF_ss, if_neg (by rw [stP_f e]; simp), Bool.and_eq_true] at hb
          refine .base ⟨(i, Ps[i].length), ⟨_, hx, ?_⟩, ?_⟩
          · rw [if_neg e]
            refine ⟨Nat.le_refl _, hb.2, ?_⟩
            unfold lvl
            rw [if_neg (by simp), List.take_length]
            exact hb.1
          · unfold nst
            simp only [hx]
            rw [if_neg e, if_pos ⟨by first | rfl | simp, h⟩]
            exact List.mem_singleton.mpr rfl
    refine reach0 (fun q r h hr => .step h hr) (fun i p hp _ hb => ent i (lt_of hp) hb) (fun i p hp he hb => ?_) q
    subst he
    rw [take_s hp] at hb
    unfold Bf at hb
    rw [gF_ss, if_pos (by rfl), Bool.or_eq_true] at hb
    rcases hb with z | z
    · exact ent i (lt_of hp) z
    · exact star i hp (by rw [take_s hp]; exact z)
theorem sign_iff {c : Nat} (hc : c ≠ 42) : ∀ q, Cl Ps (fun q => ∃ p, SP Ps us u p ∧ q ∈ nxs Ps c p) q ↔ SP Ps us (u ++ [c]) q := by
  intro q
  constructor
  · refine Cl_sub (fun q h => ?_) (fun q r h hr => SP_bes h hr) q
    obtain ⟨⟨i, a⟩, ⟨p, hp, h⟩, hq⟩ := h
    simp only at hp h
    unfold nxs at hq
    simp only [hp] at hq
    by_cases e : p = [42, 42]
    · rw [if_pos e] at h hq
      obtain rfl : q = (i, 1) := by simpa using hq
      refine ⟨p, hp, ?_⟩
      rw [if_pos e]
      exact ⟨h.1, .inr ⟨rfl, by simp⟩⟩
    · rw [if_neg e] at h hq
      obtain ⟨h1, h2, h3⟩ := h
      refine ⟨p, ?_, ?_⟩
      · split at hq
        · obtain rfl : q = (i, a + 1) := by simpa using hq
          exact hp
        · split at hq
          · obtain rfl : q = (i, a) := by simpa using hq
            exact hp
          · cases hq
      · rw [if_neg e]
        split at hq
        · rename_i hm
          obtain rfl : q = (i, a + 1) := by simpa using hq
          obtain ⟨m, hm1, hm2⟩ : ∃ m, p[a]? = some m ∧ mtM m c = true := by
            rcases hm with z | z
            · exact ⟨_, z, by simp [mtM]⟩
            · exact ⟨_, z, by simp [mtM]⟩
          have h42 : m ≠ 42 := by
            rcases hm with z | z
            · rw [hm1] at z; cases z; exact hc
            · rw [hm1] at z; cases z; decide
          refine ⟨lt_of hm1, h2, ?_⟩
          unfold lvl at h3
          rw [if_neg (by rw [hm1]; simpa using h42)] at h3
          have k : Mf (p.take (a + 1)) (u ++ [c]) = true := by
            rw [take_s hm1]
            unfold Mf
            rw [gF_ss, if_neg (by simpa [stM] using h42), hm2]
            exact h3
          show lvl p (a + 1) (u ++ [c]) = true
          unfold lvl
          split
          · rename_i hm3
            rw [take_s hm3]
            exact gF_mono (by rfl) k
          · exact k
        · split at hq
          · rename_i hm
            obtain rfl : q = (i, a) := by simpa using hq
            refine ⟨h1, h2, ?_⟩
            unfold lvl at h3 ⊢
            rw [if_pos hm] at h3
            simp only
            rw [if_pos hm]
            rw [take_s hm] at h3 ⊢
            exact gF_ext (by rfl) h3
          · cases hq
  · intro h
    obtain ⟨i, a⟩ := q
    obtain ⟨p, hp, h⟩ := h
    simp only at hp h
    by_cases e : p = [42, 42]
    · rw [if_pos e] at h
      obtain ⟨h1, h2⟩ := h
      have ha : a = 1 := by
        rcases h2 with ⟨_, z⟩ | ⟨z, _⟩
        · simp at z
        · exact z
      subst ha
      by_cases hu : u = []
      · refine .base ⟨(i, 0), ⟨p, hp, ?_⟩, ?_⟩
        · rw [if_pos e]; exact ⟨h1, .inl ⟨rfl, hu⟩⟩
        · unfold nxs; simp only [hp]; rw [if_pos e]; exact List.mem_singleton.mpr rfl
      · refine .base ⟨(i, 1), ⟨p, hp, ?_⟩, ?_⟩
        · rw [if_pos e]; exact ⟨h1, .inr ⟨rfl, hu⟩⟩
        · unfold nxs; simp only [hp]; rw [if_pos e]; exact List.mem_singleton.mpr rfl
    · rw [if_neg e] at h
      obtain ⟨h1, h2, h3⟩ := h
      have mem : ∀ a, a ≤ p.length → lvl p a u = true → SP Ps us u (i, a) := fun a ha hl => ⟨p, hp, by rw [if_neg e]; exact ⟨ha, h2, hl⟩⟩
      have stay : ∀ a, p[a]? = some 42 → Mf (p.take (a + 1)) u = true → Cl Ps (fun q => ∃ p, SP Ps us u p ∧ q ∈ nxs Ps c p) (i, a) := fun a hm hl => by
        refine .base ⟨(i, a), mem a (Nat.le_of_lt (lt_of hm)) (by unfold lvl; rw [if_pos hm]; exact hl), ?_⟩
        unfold nxs
        simp only [hp]
        rw [if_neg e, if_neg (by rw [hm]; simp; exact fun z => hc z.symm), if_pos hm]
        exact List.mem_singleton.mpr rfl
      have key : ∀ a, a ≤ p.length → Mf (p.take a) (u ++ [c]) = true → Cl Ps (fun q => ∃ p, SP Ps us u p ∧ q ∈ nxs Ps c p) (i, a) := by
        intro a
        induction a with
        | zero =>
          intro _ hm
          rw [List.take_zero] at hm
          unfold Mf at hm
          rw [gF_ns] at hm
          cases hm
        | succ a ih =>
          intro ha hm
          have hx : p[a]? = some p[a] := List.getElem?_eq_getElem (by omega)
          by_cases h42 : p[a] = 42
          · rw [h42] at hx
            have nx : (i, a + 1) ∈ bes Ps (i, a) := by
              unfold bes
              simp only [hp]
              rw [if_neg e, if_pos hx]
              exact List.mem_singleton.mpr rfl
            have hm2 := hm
            rw [take_s hx] at hm2
            unfold Mf at hm2
            rw [gF_ss, if_pos (by rfl), Bool.or_eq_true] at hm2
            rcases hm2 with z | z
            · exact .step (ih (by omega) z) nx
            · exact .step (stay a hx (by rw [take_s hx]; exact z)) nx
          · have hm2 := hm
            rw [take_s hx] at hm2
            unfold Mf at hm2
            rw [gF_ss, if_neg (by simpa [stM] using h42), Bool.and_eq_true] at hm2
            refine .base ⟨(i, a), mem a (by omega) (by unfold lvl; rw [if_neg (by rw [hx]; simpa using h42)]; exact hm2.2), ?_⟩
            unfold nxs
            simp only [hp]
            have : p[a]? = some c ∨ p[a]? = some 63 := by
              have := hm2.1
              simp only [mtM, Bool.or_eq_true, beq_iff_eq] at this
              rw [hx]
              rcases this with z | z
              · exact .inr (by rw [z])
              · exact .inl (by rw [z])
            rw [if_neg e, if_pos this]
            exact List.mem_singleton.mpr rfl
      unfold lvl at h3
      split at h3
      · rename_i hm
        have hm2 := h3
        rw [take_s hm] at hm2
        unfold Mf at hm2
        rw [gF_ss, if_pos (by rfl), Bool.or_eq_true] at hm2
        rcases hm2 with z | z
        · exact key a h1 z
        · exact stay a hm (by rw [take_s hm]; exact z)
      · exact key a h1 h3
theorem end_iff (hu : u ≠ []) : (∃ q, SP Ps us u q ∧ ends Ps q = true) ↔ Bf Ps (us ++ [u]) = true := by
  have up : ∀ (n i : Nat), Ps.length - i ≤ n → (Ps.drop i).all (fun p => p == [42, 42]) = true → Bf (Ps.take i) (us ++ [u]) = true → Bf Ps (us ++ [u]) = true := by
    intro n
    induction n with
    | zero => intro i hi _ hb; rwa [List.take_of_length_le (by omega)] at hb
    | succ n ih =>
      intro i hi ha hb
      by_cases hl : i < Ps.length
      · have hx : Ps[i]? = some Ps[i] := List.getElem?_eq_getElem hl
        rw [List.drop_eq_getElem_cons hl, List.all_cons, Bool.and_eq_true] at ha
        refine ih (i + 1) (by omega) ha.2 ?_
        rw [take_s hx]
        exact gF_mono ha.1 hb
      · rwa [List.take_of_length_le (by omega)] at hb
  constructor
  · rintro ⟨⟨i, a⟩, ⟨p, hp, h⟩, he⟩
    simp only at hp h
    unfold ends at he
    simp only [hp] at he
    rw [Bool.and_eq_true] at he
    refine up _ (i + 1) (Nat.le_refl _) he.2 ?_
    by_cases e : p = [42, 42]
    · rw [if_pos e] at h
      have h1 := h.1
      rw [take_s hp] at h1 ⊢
      exact gF_ext (stP_t e) h1
    · rw [if_neg e] at h he
      have ha : a = p.length := by simpa using he.1
      subst ha
      rw [take_s hp]
      unfold Bf
      rw [gF_ss, if_neg (by rw [stP_f e]; simp)]
      have h3 := h.2.2
      unfold lvl at h3
      rw [if_neg (by simp), List.take_length] at h3
      rw [h3]
      exact h.2.1
  · intro hb
    have down : ∀ k, k ≤ Ps.length → (Ps.drop k).all (fun p => p == [42, 42]) = true → Bf (Ps.take k) (us ++ [u]) = true → ∃ q, SP Ps us u q ∧ ends Ps q = true := by
      intro k
      induction k with
      | zero =>
        intro _ _ hb
        rw [List.take_zero] at hb
        unfold Bf at hb
        rw [gF_ns] at hb
        cases hb
      | succ k ih =>
        intro hk ha hb
        have hl : k < Ps.length := hk
        have hx : Ps[k]? = some Ps[k] := List.getElem?_eq_getElem hl
        by_cases e : Ps[k] = [42, 42]
        · have hb2 := hb
          rw [take_s hx] at hb2
          unfold Bf at hb2
          rw [gF_ss, if_pos (stP_t e), Bool.or_eq_true] at hb2
          rcases hb2 with z | z
          · refine ih (by omega) ?_ z
            rw [List.drop_eq_getElem_cons hl, List.all_cons, ha, e]
            rfl
          · refine ⟨(k, 1), ⟨_, hx, ?_⟩, ?_⟩
            · rw [if_pos e]; exact ⟨by rw [take_s hx]; exact z, .inr ⟨rfl, hu⟩⟩
            · unfold ends
              simp only [hx]
              rw [if_pos e, ha]
              rfl
        · have hb2 := hb
          rw [take_s hx] at hb2
          unfold Bf at hb2
          rw [gF_ss, if_neg (by rw [stP_f e]; simp), Bool.and_eq_true] at hb2
          refine ⟨(k, Ps[k].length), ⟨_, hx, ?_⟩, ?_⟩
          · rw [if_neg e]
            refine ⟨Nat.le_refl _, hb2.2, ?_⟩
            unfold lvl
            rw [if_neg (by simp), List.take_length]
            exact hb2.1
          · unfold ends
            simp only [hx]
            rw [if_neg e, ha]
            simp
    exact down Ps.length (Nat.le_refl _) (by simp) (by rw [List.take_length]; exact hb)
end
end Z

set_option Elab.async false
set_option linter.all false
set_option maxRecDepth 100000
namespace Z
def plD (q : Pl) : D := .tup [.int q.1, .int q.2]
def pls (F : List Pl) : List D := F.map plD
theorem at_nat {α : Type} (xs : List α) (n : Nat) : at_ xs (n : Int) = xs[n]? := by
  unfold at_ ixOf
  rw [if_pos (by omega)]
  by_cases h : n < xs.length
  · rw [if_pos (by omega)]
    show xs[(n : Int).toNat]? = _
    rw [Int.toNat_natCast]
  · rw [if_neg (by omega), List.getElem?_eq_none (by omega)]; rfl
theorem cut_one {α : Type} (s : List α) (a : Nat) : cut s (some (a : Int)) (some ((a : Int) + 1)) = s[a]?.toList := by
  unfold cut
  have s1 : sIx s.length 0 (some (a : Int)) = min (a : Int).toNat s.length := by
    show (if (a : Int) < 0 then ((a : Int) + (s.length : Int)).toNat else min (a : Int).toNat s.length) = _
    rw [if_neg (by omega)]
  have s2 : sIx s.length s.length (some ((a : Int) + 1)) = min ((a : Int) + 1).toNat s.length := by
    show (if (a : Int) + 1 < 0 then ((a : Int) + 1 + (s.length : Int)).toNat else min ((a : Int) + 1).toNat s.length) = _
    rw [if_neg (by omega)]
  rw [s1, s2]
  have e1 : ((a : Int) + 1).toNat = a + 1 := by omega
  rw [e1, Int.toNat_natCast]
  by_cases h : a < s.length
  · rw [Nat.min_eq_left (by omega), Nat.min_eq_left (by omega), List.getElem?_eq_getElem h, List.drop_eq_getElem_cons h]
    have : a + 1 - a = 1 := by omega
    rw [this]
    rfl
  · rw [List.getElem?_eq_none (by omega), Nat.min_eq_right (by omega), Nat.min_eq_right (by omega)]
    simp
theorem frz_strs : ∀ s : List (List Nat), frzL (strsD s) = strsD s
  | [] => rfl
  | c :: s => by
    show D.str c :: frzL (strsD s) = _
    rw [frz_strs s]; rfl
theorem frz_pl (q : Pl) : (plD q).frz = plD q := rfl
theorem frz_pls : ∀ s : List Pl, frzL (pls s) = pls s
  | [] => rfl
  | c :: s => by
    show (plD c).frz :: frzL (pls s) = _
    rw [frz_pls s]; rfl
theorem pls_own : ∀ s : List Pl, ownL (pls s) = false
  | [] => rfl
  | c :: s => pls_own s
theorem strsD_at {Ps : List (List Nat)} {i : Nat} {p : List Nat} (h : Ps[i]? = some p) : at_ (strsD Ps) (i : Int) = some (.str p) := by
  rw [at_nat]
  unfold strsD
  rw [List.getElem?_map, h]
  rfl
@[simp] theorem strsD_len (Ps : List (List Nat)) : (strsD Ps).length = Ps.length := List.length_map ..
@[simp] theorem pls_len (F : List Pl) : (pls F).length = F.length := List.length_map ..
/-- parts that are not too long -/
structure PsOk (Ps : List (List Nat)) : Prop where
  n : Ps.length ≤ 1000
  s : ∀ p ∈ Ps, p.length ≤ 1000
section
variable {P : Nat → Option Fn} {k : Nat} {Ps : List (List Nat)}
theorem beside_ok [Has P 21 f21] (ok : PsOk Ps) {q : Pl} {p : List Nat} (hp : Ps[q.1]? = some p) : (run P (k + 1) 21 [.lst false (strsD Ps), plD q]).Ok fun r io => r = .lst true (pls (bes Ps q)) ∧ io = [none, none] := by
  obtain ⟨i, a⟩ := q
  simp only at hp
  refine cok_run (fn := ⟨[false, false], 5, b21⟩) (has P 21 f21) rfl ?_
  have hl := ok.s p (List.mem_of_getElem? hp)
  have hl2 : p.length ≤ 16777216 := by omega
  have hn := ok.n
  simp [b21, plD, assignT, strsD_at hp, hl2, cut_one]
  by_cases e : p = [42, 42]
  · subst e
    have eb : bes Ps (i, a) = if a = 0 ∧ i + 1 < Ps.length then [(i + 1, 0)] else [] := by
      unfold bes
      simp only [hp, if_true]
    rw [eb]
    by_cases ha : a = 0
    · subst ha
      by_cases hi : i + 1 < Ps.length
      · have hi2 : (i : Int) + 1 < Ps.length := by omega
        simp [hi, hi2, pls, plD]
      · have hi2 : ¬ (i : Int) + 1 < Ps.length := by omega
        simp [hi, hi2, pls]
    · simp [ha, pls]
  · have eb : bes Ps (i, a) = if p[a]? = some 42 then [(i, a + 1)] else [] := by
      unfold bes
      simp only [hp]
      rw [if_neg e]
    rw [eb]
    cases hx : p[a]? with
    | none => simp [e, pls]
    | some c =>
      by_cases hc : c = 42
      · subst hc; simp [e, pls, plD]
      · simp [e, hc, pls]
end
end Z

set_option Elab.async false
set_option linter.all false
set_option maxRecDepth 100000
namespace Z
def fd (F : List Pl) : List (D × D) := F.map fun q => (plD q, .bl true)
theorem plD_inj {q r : Pl} (h : plD q = plD r) : q = r := by
  obtain ⟨a, b⟩ := q
  obtain ⟨c, d⟩ := r
  unfold plD at h
  simp at h
  have h1 : a = c := by omega
  have h2 : b = d := by omega
  rw [h1, h2]
theorem pl_mem {q : Pl} {F : List Pl} : plD q ∈ pls F ↔ q ∈ F := by
  unfold pls
  rw [List.mem_map]
  constructor
  · rintro ⟨r, h, e⟩; rw [← plD_inj e]; exact h
  · intro h; exact ⟨q, h, rfl⟩
theorem pl_kd (q : Pl) : (plD q).kd = 2 := by
  simp [plD, D.kd, hsL, D.hs, depL, D.dep]
theorem pl_peq (q r : Pl) : (plD q).peq (plD r) = decide (q = r) := by
  obtain ⟨a, b⟩ := q
  obtain ⟨c, d⟩ := r
  simp only [plD, D.peq, peqL, Bool.and_true, Prod.mk.injEq]
  rw [Bool.eq_iff_iff]
  simp only [Bool.and_eq_true, beq_iff_eq, decide_eq_true_eq]
  omega
theorem fd_ok (F : List Pl) : kOk 2 (fd F) = true := by
  unfold kOk fd
  rw [List.all_map, List.all_eq_true]
  intro q _
  show ((plD q).kd == 2) = true
  rw [pl_kd]; rfl
theorem fd_kin (F : List Pl) (q : Pl) : kin (fd F) (plD q) = true := by
  unfold kin
  rw [pl_kd, fd_ok]; rfl
theorem fd_get (q : Pl) : ∀ F : List Pl, dget (fd F) (plD q) = if q ∈ F then some (.bl true) else none
  | [] => rfl
  | r :: F => by
    show (if (plD r).peq (plD q) then some (D.bl true) else dget (fd F) (plD q)) = _
    rw [pl_peq, fd_get q F]
    by_cases h : r = q
    · subst h; simp
    · have h2 : ¬ q = r := fun e => h e.symm
      simp [h, h2]
theorem fd_put {q : Pl} {F : List Pl} (h : q ∉ F) : dput (fd F) (plD q) (.bl true) = fd (F ++ [q]) := by
  unfold dput
  rw [fd_get, if_neg h]
  simp [fd]
theorem fd_in (F : List Pl) (q : Pl) (o : Bool) : inOf (plD q) (.dct o (fd F)) = some (decide (q ∈ F)) := by
  show (if kin (fd F) (plD q) then some (dget (fd F) (plD q)).isSome else none) = _
  rw [fd_kin, fd_get]
  by_cases h : q ∈ F <;> simp [h]
theorem fd_keys (F : List Pl) : dkeys (fd F) = pls F := by simp [dkeys, fd, pls]
@[simp] theorem fd_len (F : List Pl) : (fd F).length = F.length := List.length_map ..
theorem pls_dep : ∀ F : List Pl, depL (pls F) ≤ 1
  | [] => Nat.zero_le _
  | q :: F => by
    show max (plD q).dep (depL (pls F)) ≤ 1
    have := pls_dep F
    have e : (plD q).dep = 1 := rfl
    rw [e]; omega
theorem pls_srt {F : List Pl} (h : F.length ≤ SL) : srtD (pls F) = some ((pls F).mergeSort leD) := by
  unfold srtD
  have h1 : srtOk (pls F) = true := by
    unfold srtOk
    have d := pls_dep F
    rw [decide_eq_true (by omega), Bool.true_and, Bool.and_eq_true, Bool.or_eq_true]
    refine ⟨?_, .inl ?_⟩
    · rw [List.all_eq_true]
      intro x hx
      rw [List.all_eq_true]
      intro y hy
      obtain ⟨q, _, rfl⟩ := List.mem_map.mp hx
      obtain ⟨r, _, rfl⟩ := List.mem_map.mp hy
      rfl
    · rw [List.all_eq_true]
      intro x hx
      obtain ⟨q, _, rfl⟩ := List.mem_map.mp hx
      rfl
  rw [h1, pls_len, decide_eq_true h]
  rfl
theorem pls_of {xs : List D} (h : ∀ x ∈ xs, ∃ q, x = plD q) : ∃ G, xs = pls G := by
  induction xs with
  | nil => exact ⟨[], rfl⟩
  | cons x xs ih =>
    obtain ⟨q, rfl⟩ := h x List.mem_cons_self
    obtain ⟨G, rfl⟩ := ih fun y hy => h y (List.mem_cons_of_mem _ hy)
    exact ⟨q :: G, rfl⟩
theorem srt_pls (F : List Pl) : ∃ G, (pls F).mergeSort leD = pls G ∧ G.length = F.length ∧ ∀ q, q ∈ G ↔ q ∈ F := by
  have hp := List.mergeSort_perm (pls F) leD
  obtain ⟨G, e⟩ := pls_of (xs := (pls F).mergeSort leD) fun x hx => by
    obtain ⟨q, _, e⟩ := List.mem_map.mp (hp.mem_iff.mp hx)
    exact ⟨q, e.symm⟩
  refine ⟨G, e, ?_, fun q => ?_⟩
  · have := hp.length_eq
    rw [e, pls_len, pls_len] at this
    exact this
  · rw [← pl_mem, ← pl_mem, ← e]
    exact hp.mem_iff
/-- places that are some -/
def VP (Ps : List (List Nat)) (q : Pl) : Prop := ∃ p, Ps[q.1]? = some p ∧ q.2 ≤ p.length
theorem VP_bes {Ps : List (List Nat)} {q r : Pl} (h : VP Ps q) (hr : r ∈ bes Ps q) : VP Ps r := by
  obtain ⟨p, hp, h⟩ := h
  unfold bes at hr
  rw [hp] at hr
  simp only at hr
  split at hr
  · split at hr
    · rename_i h0
      obtain rfl : r = (q.1 + 1, 0) := by simpa using hr
      exact ⟨_, List.getElem?_eq_getElem h0.2, Nat.zero_le _⟩
    · cases hr
  · split at hr
    · rename_i hm
      obtain rfl : r = (q.1, q.2 + 1) := by simpa using hr
      exact ⟨p, hp, lt_of hm⟩
    · cases hr
theorem bes_len (Ps : List (List Nat)) (q : Pl) : (bes Ps q).length ≤ 1 := by
  unfold bes
  split
  · simp
  · split
    · split <;> simp
    · split <;> simp
def allP (Ps : List (List Nat)) : List Pl := (List.range Ps.length).flatMap fun i => (List.range 1001).map fun a => (i, a)
theorem VP_all {Ps : List (List Nat)} (ok : PsOk Ps) {q : Pl} (h : VP Ps q) : q ∈ allP Ps := by
  obtain ⟨i, a⟩ := q
  obtain ⟨p, hp, h⟩ := h
  simp only at hp h
  have hl := ok.s p (List.mem_of_getElem? hp)
  unfold allP
  rw [List.mem_flatMap]
  exact ⟨i, List.mem_range.mpr (lt_of hp), List.mem_map.mpr ⟨a, List.mem_range.mpr (by omega), rfl⟩⟩
theorem fm_len {α β : Type} (f : α → List β) (n : Nat) : ∀ xs : List α, (∀ x ∈ xs, (f x).length = n) → (xs.flatMap f).length = xs.length * n
  | [], _ => by simp
  | x :: xs, h => by
    rw [List.flatMap_cons, List.length_append, h x List.mem_cons_self, fm_len f n xs fun y hy => h y (List.mem_cons_of_mem _ hy), List.length_cons, Nat.add_mul]
    omega
theorem all_len {Ps : List (List Nat)} (ok : PsOk Ps) : (allP Ps).length ≤ 1001000 := by
  have h := ok.n
  unfold allP
  rw [fm_len _ 1001 _ fun x _ => by rw [List.length_map, List.length_range], List.length_range]
  omega
def unf (Ps : List (List Nat)) (F : List Pl) : Nat := ((allP Ps).filter fun q => decide (q ∉ F)).length
theorem filt_le {α : Type} {p q : α → Bool} (hi : ∀ x, p x = true → q x = true) : ∀ xs : List α, (xs.filter p).length ≤ (xs.filter q).length
  | [] => Nat.le_refl _
  | x :: xs => by
    have ih := filt_le hi xs
    rw [List.filter_cons, List.filter_cons]
    by_cases h1 : p x = true
    · rw [if_pos h1, if_pos (hi x h1), List.length_cons, List.length_cons]; omega
    · rw [if_neg h1]
      split
      · rw [List.length_cons]; omega
      · exact ih
theorem filt_lt {α : Type} {p q : α → Bool} (hi : ∀ x, p x = true → q x = true) {y : α} (h1 : p y = false) (h2 : q y = true) : ∀ xs : List α, y ∈ xs → (xs.filter p).length < (xs.filter q).length
  | x :: xs, hy => by
    have il := filt_le hi xs
    rw [List.filter_cons, List.filter_cons]
    rcases List.mem_cons.mp hy with rfl | hy
    · rw [if_neg (by rw [h1]; simp), if_pos h2, List.length_cons]; omega
    · have ih := filt_lt hi h1 h2 xs hy
      by_cases h1 : p x = true
      · rw [if_pos h1, if_pos (hi x h1), List.length_cons, List.length_cons]; omega
      · rw [if_neg h1]
        split
        · rw [List.length_cons]; omega
        · exact ih
theorem unf_lt {Ps : List (List Nat)} {F : List Pl} {q : Pl} (hm : q ∈ allP Ps) (hq : q ∉ F) : unf Ps (F ++ [q]) < unf Ps F := by
  unfold unf
  refine filt_lt (y := q) (fun x h => ?_) (by simp) (by simpa using hq) _ hm
  simp only [List.mem_append, decide_eq_true_eq, not_or] at h ⊢
  exact h.1
def lp (q r : Pl) : Bool := leD (plD q) (plD r)
theorem lp_iff (q r : Pl) : lp q r = true ↔ q.1 < r.1 ∨ q.1 = r.1 ∧ q.2 ≤ r.2 := by
  obtain ⟨a, b⟩ := q
  obtain ⟨c, d⟩ := r
  have key : (plD (c, d)).lt (plD (a, b)) = if (c : Int) == (a : Int) then (if (d : Int) == (b : Int) then false else decide ((d : Int) < b)) else decide ((c : Int) < a) := rfl
  unfold lp leD
  rw [key]
  by_cases h : (c : Int) = a
  · by_cases h2 : (d : Int) = b
    · simp [h, h2]; omega
    · simp [h, h2]; omega
  · simp [h]; omega
/-- rising, each once -/
def Srt (G : List Pl) : Prop := G.Nodup ∧ G.Pairwise fun x y => lp x y = true
theorem srt_of {F : List Pl} (h : F.Nodup) : ∃ G, (pls F).mergeSort leD = pls G ∧ G.length = F.length ∧ (∀ q, q ∈ G ↔ q ∈ F) ∧ Srt G := by
  have hp := List.mergeSort_perm F lp
  refine ⟨F.mergeSort lp, ?_, hp.length_eq, fun q => hp.mem_iff, hp.nodup_iff.mpr h, ?_⟩
  · unfold pls
    rw [List.map_mergeSort]
    exact fun a _ b _ => rfl
  · refine List.pairwise_mergeSort (fun a b c h1 h2 => ?_) (fun a b => ?_) _
    · rw [lp_iff] at *; omega
    · rw [Bool.or_eq_true, lp_iff, lp_iff]; omega
theorem srt_eq {F G : List Pl} (hf : Srt F) (hg : Srt G) (h : ∀ q, q ∈ F ↔ q ∈ G) : F = G :=
  List.Perm.eq_of_pairwise (le := fun x y => lp x y = true) (fun x y _ _ h1 h2 => by
    rw [lp_iff] at h1 h2
    obtain ⟨a, b⟩ := x
    obtain ⟨c, d⟩ := y
    simp only at h1 h2
    have e1 : a = c := by omega
    have e2 : b = d := by omega
    rw [e1, e2]) hf.2 hg.2 ((List.perm_ext_iff_of_nodup hf.1 hg.1).mpr h)
/-- what the walk keeps -/
structure CI (Ps : List (List Nat)) (I : List Pl) (n : Nat) (F Wt : List Pl) : Prop where
  vf : ∀ q ∈ F, VP Ps q
  vw : ∀ q ∈ Wt, VP Ps q
  hi : ∀ q ∈ I, q ∈ F ∨ q ∈ Wt
  hb : ∀ q ∈ F, ∀ r ∈ bes Ps q, r ∈ F ∨ r ∈ Wt
  cf : ∀ q ∈ F, Cl Ps (· ∈ I) q
  cw : ∀ q ∈ Wt, Cl Ps (· ∈ I) q
  m : Wt.length + unf Ps F ≤ n
  t : F.length + unf Ps F ≤ 1001000
  b : n ≤ 2002000
  nd : F.Nodup
theorem CI.skip {Ps : List (List Nat)} {I : List Pl} {n : Nat} {F Wt : List Pl} {q : Pl} (c : CI Ps I (n + 1) F (Wt ++ [q])) (h : q ∈ F) : CI Ps I n F Wt := by
  have drop : ∀ r, r ∈ F ∨ r ∈ Wt ++ [q] → r ∈ F ∨ r ∈ Wt := fun r z => by
    rcases z with z | z
    · exact .inl z
    · rcases List.mem_append.mp z with z | z
      · exact .inr z
      · rw [List.mem_singleton.mp z]; exact .inl h
  refine ⟨c.vf, fun r z => c.vw r (List.mem_append_left _ z), fun r z => drop r (c.hi r z), fun r z s hs => drop s (c.hb r z s hs), c.cf, fun r z => c.cw r (List.mem_append_left _ z), ?_, c.t, by have := c.b; omega, c.nd⟩
  have := c.m
  rw [List.length_append] at this
  simp at this
  omega
theorem CI.take {Ps : List (List Nat)} (ok : PsOk Ps) {I : List Pl} {n : Nat} {F Wt : List Pl} {q : Pl} (c : CI Ps I (n + 1) F (Wt ++ [q])) (h : q ∉ F) : CI Ps I n (F ++ [q]) (Wt ++ bes Ps q) := by
  have hq : VP Ps q := c.vw q (List.mem_append_right _ (List.mem_singleton.mpr rfl))
  have hc : Cl Ps (· ∈ I) q := c.cw q (List.mem_append_right _ (List.mem_singleton.mpr rfl))
  have turn : ∀ r, r ∈ F ∨ r ∈ Wt ++ [q] → r ∈ F ++ [q] ∨ r ∈ Wt ++ bes Ps q := fun r z => by
    rcases z with z | z
    · exact .inl (List.mem_append_left _ z)
    · rcases List.mem_append.mp z with z | z
      · exact .inr (List.mem_append_left _ z)
      · exact .inl (List.mem_append_right _ z)
  have hu := unf_lt (VP_all ok hq) h
  refine ⟨fun r z => ?_, fun r z => ?_, fun r z => turn r (c.hi r z), fun r z s hs => ?_, fun r z => ?_, fun r z => ?_, ?_, ?_, by have := c.b; omega, List.nodup_append.mpr ⟨c.nd, by simp, fun x hx y hy => by rw [List.mem_singleton.mp hy]; exact fun e => h (e ▸ hx)⟩⟩
  · rcases List.mem_append.mp z with z | z
    · exact c.vf r z
    · rw [List.mem_singleton.mp z]; exact hq
  · rcases List.mem_append.mp z with z | z
    · exact c.vw r (List.mem_append_left _ z)
    · exact VP_bes hq z
  · rcases List.mem_append.mp z with z | z
    · exact turn s (c.hb r z s hs)
    · rw [List.mem_singleton.mp z] at hs
      exact .inr (List.mem_append_right _ hs)
  · rcases List.mem_append.mp z with z | z
    · exact c.cf r z
    · rw [List.mem_singleton.mp z]; exact hc
  · rcases List.mem_append.mp z with z | z
    · exact c.cw r (List.mem_append_left _ z)
    · exact .step hc z
  · have := c.m
    have b := bes_len Ps q
    rw [List.length_append] at this ⊢
    simp at this
    omega
  · have := c.t
    rw [List.length_append]
    simp
    omega
theorem CI.done {Ps : List (List Nat)} {I : List Pl} {n : Nat} {F : List Pl} (c : CI Ps I n F []) : ∀ q, q ∈ F ↔ Cl Ps (· ∈ I) q := fun q => by
  constructor
  · exact c.cf q
  · refine Cl_sub (fun q h => ?_) (fun q r h hr => ?_) q
    · rcases c.hi q h with z | z
      · exact z
      · cases z
    · rcases c.hb q h r hr with z | z
      · exact z
      · cases z
section
variable {P : Nat → Option Fn} {k : Nat} {Ps : List (List Nat)}
def I22 (Ps : List (List Nat)) (I : List Pl) (n : Nat) (s : Env) : Prop := ∃ F Wt o o2 w4, s = [some (.lst o (strsD Ps)), some (.lst o2 (pls I)), some (.dct true (fd F)), some (.lst true (pls Wt)), w4] ∧ CI Ps I n F Wt
def J22 (Ps : List (List Nat)) (I : List Pl) (s : Env) : Prop := ∃ n, ∃ F o o2 w3 w4, s = [some (.lst o (strsD Ps)), some (.lst o2 (pls I)), some (.dct true (fd F)), w3, w4] ∧ CI Ps I n F []
theorem pls_app (F G : List Pl) : pls (F ++ G) = pls F ++ pls G := List.map_append ..
theorem pls_nil : pls [] = [] := rfl
theorem closed_ok [Has P 21 f21] [Has P 22 f22] (ok : PsOk Ps) {I : List Pl} (hv : ∀ q ∈ I, VP Ps q) (hl : I.length ≤ 1001000) {o o2 : Bool} :
    (run P (k + 2) 22 [.lst o (strsD Ps), .lst o2 (pls I)]).Ok fun r io => ∃ G, r = .tup (pls G) ∧ (G.length ≤ 1001000 ∧ Srt G) ∧ (∀ q, q ∈ G ↔ Cl Ps (· ∈ I) q) ∧ io = [none, none] := by
  refine cok_run (fn := ⟨[false, false], 5, b22⟩) (has P 22 f22) rfl ?_
  simp only [b22]
  refine w_cut (fun s => s = [some (.lst o (strsD Ps)), some (.lst o2 (pls I)), some (.dct true (fd [])), none, none]) ?_ fun s e => ?_
  · simp [fd]
  subst e
  refine w_cut (fun s => s = [some (.lst o (strsD Ps)), some (.lst o2 (pls I)), some (.dct true (fd [])), some (.lst true (pls I)), none]) ?_ fun s e => ?_
  · simp [pls_own]
  subst e
  refine w_cut (J22 Ps I) ?_ fun s h => ?_
  · refine w_wh (I22 Ps I) (I.length + (allP Ps).length) ?_ ⟨[], I, o, o2, none, rfl, ?_⟩ ?_
    · have := all_len ok
      unfold W; omega
    · refine ⟨(fun q h => nomatch h), hv, fun q h => .inr h, (fun q h => nomatch h), (fun q h => nomatch h), fun q h => .base h, ?_, ?_, by have := all_len ok; omega, List.nodup_nil⟩
      · have : unf Ps [] ≤ (allP Ps).length := List.length_filter_le ..
        omega
      · have : unf Ps [] ≤ (allP Ps).length := List.length_filter_le ..
        have := all_len ok
        simp
        omega
    · intro n s h
      obtain ⟨F, Wt, o, o2, w4, rfl, c⟩ := h
      have ct := c.t
      have d1 := pls_dep Wt
      simp [eqOf_nil (xs := pls Wt) (by omega)]
      rcases snoc_cases Wt with rfl | ⟨Wt, q, rfl⟩
      · simp [pls_nil]
        exact ⟨n, F, o, o2, _, _, rfl, c⟩
      · have hq : VP Ps q := c.vw q (List.mem_append_right _ (List.mem_singleton.mpr rfl))
        have hnn : n = (n - 1) + 1 := by
          have := c.m
          rw [List.length_append] at this
          simp at this
          omega
        rw [hnn] at c
        have e1 : pls (Wt ++ [q]) = pls Wt ++ [plD q] := pls_app ..
        have hd : (plD q).own = false := rfl
        have cm := c.m
        have cb := c.b
        rw [List.length_append] at cm
        simp at cm
        have al := all_len ok
        simp [e1, fd_in, fd_kin, frz_strs, frz_pl]
        refine ⟨n - 1, by omega, ?_⟩
        by_cases hf : q ∈ F
        · simp [hf]
          exact ⟨F, Wt, o, o2, _, rfl, c.skip hf⟩
        · have fl : F.length < 16777216 := by omega
          obtain ⟨p, hp, _⟩ := hq
          simp [hf, fl, fd_put hf, frz_strs, frz_pl]
          refine (beside_ok (k := k) ok hp).mono fun r io h => ?_
          obtain ⟨rfl, rfl⟩ := h
          have b := bes_len Ps q
          have hb2 : Wt.length + (bes Ps q).length ≤ 16777216 := by omega
          simp [pls_own, hb2]
          exact ⟨F ++ [q], Wt ++ bes Ps q, false, o2, _, by rw [pls_app], c.take ok hf⟩
  · obtain ⟨n, F, o, o2, w3, w4, rfl, c⟩ := h
    have ct := c.t
    have fl : F.length ≤ SL := by unfold SL; omega
    obtain ⟨G, e, el, eg, es⟩ := srt_of c.nd
    simp [fd_keys, pls_srt fl, e, pls_own]
    exact ⟨G, rfl, ⟨by omega, es⟩, fun a b => (eg (a, b)).trans (c.done (a, b))⟩
end
end Z

set_option Elab.async false
set_option linter.all false
set_option maxRecDepth 100000
namespace Z
theorem parts_c (x : Nat) (xs : List Nat) : parts 47 (x :: xs) = if x = 47 then [] :: parts 47 xs else match parts 47 xs with | [] => [[x]] | p :: ps => (x :: p) :: ps := rfl
theorem parts47_ne : ∀ s : List Nat, parts 47 s ≠ []
  | [] => by simp [parts]
  | x :: xs => by
    rw [parts_c]
    split
    · simp
    · split <;> simp
theorem parts_app : ∀ (a b : List Nat) , parts 47 (a ++ 47 :: b) = parts 47 a ++ parts 47 b
  | [], b => by rw [List.nil_append, parts_c, if_pos rfl]; rfl
  | x :: a, b => by
    have ih := parts_app a b
    rw [List.cons_append, parts_c, parts_c, ih]
    by_cases hx : x = 47
    · rw [if_pos hx, if_pos hx]; rfl
    · rw [if_neg hx, if_neg hx]
      cases e : parts 47 a with
      | nil => exact absurd e (parts47_ne a)
      | cons p ps => rfl
theorem parts_snoc {c : Nat} (hc : c ≠ 47) : ∀ {a : List Nat} {us : List (List Nat)} {u : List Nat}, parts 47 a = us ++ [u] → parts 47 (a ++ [c]) = us ++ [u ++ [c]]
  | [], us, u, h => by
    have : us = [] ∧ u = [] := by
      cases us with
      | nil => simp [parts] at h; exact ⟨rfl, h⟩
      | cons x us => cases us <;> simp [parts] at h
    obtain ⟨rfl, rfl⟩ := this
    rw [List.nil_append, parts_c, if_neg hc]
    rfl
  | x :: a, us, u, h => by
    rw [List.cons_append, parts_c]
    rw [parts_c] at h
    by_cases hx : x = 47
    · rw [if_pos hx] at h ⊢
      cases us with
      | nil =>
        simp only [List.nil_append, List.cons.injEq] at h
        exact absurd h.2 (parts47_ne a)
      | cons y us =>
        simp only [List.cons_append, List.cons.injEq] at h
        obtain ⟨rfl, h⟩ := h
        rw [parts_snoc hc h]
        rfl
    · rw [if_neg hx] at h ⊢
      cases e : parts 47 a with
      | nil => exact absurd e (parts47_ne a)
      | cons p ps =>
        rw [e] at h
        simp only at h
        cases us with
        | nil =>
          simp only [List.nil_append, List.cons.injEq] at h
          obtain ⟨rfl, rfl⟩ := h
          rw [parts_snoc (us := []) hc e]
          rfl
        | cons y us =>
          simp only [List.cons_append, List.cons.injEq] at h
          obtain ⟨rfl, rfl⟩ := h
          rw [parts_snoc (us := p :: us) (u := u) hc e]
          rfl
theorem parts_ok {s : List Nat} (h : s.length ≤ 999) : PsOk (parts 47 s) := by
  obtain ⟨h1, h2⟩ := parts_bd s
  exact ⟨by omega, fun p hp => by have := h2 p hp; omega⟩
theorem cut_from {α : Type} (s : List α) (a : Nat) : cut s (some (a : Int)) none = s.drop a := by
  unfold cut
  have s1 : sIx s.length 0 (some (a : Int)) = min (a : Int).toNat s.length := by
    show (if (a : Int) < 0 then ((a : Int) + (s.length : Int)).toNat else min (a : Int).toNat s.length) = _
    rw [if_neg (by omega)]
  have s2 : sIx s.length s.length none = s.length := rfl
  rw [s1, s2, Int.toNat_natCast]
  by_cases h : a ≤ s.length
  · rw [Nat.min_eq_left h, List.take_of_length_le (by rw [List.length_drop]; omega)]
  · rw [Nat.min_eq_right (by omega), Nat.sub_self, List.take_zero, List.drop_eq_nil_of_le (by omega)]
@[simp] theorem slice3_l {p q o : Bool} {xs : List D} {l h : D} : slice3 p q (.lst o xs) l h = (endOf p l).bind fun l => (endOf q h).bind fun h => if ownL xs then none else some (.lst true (cut xs l h)) := rfl
@[simp] theorem slice3_t {p q : Bool} {xs : List D} {l h : D} : slice3 p q (.tup xs) l h = (endOf p l).bind fun l => (endOf q h).bind fun h => if ownL xs then none else some (.tup (cut xs l h)) := rfl
theorem strsD_fold (ps : List (List Nat)) : ps.map D.str = strsD ps := rfl
section
variable {P : Nat → Option Fn} {k : Nat} {s : List Nat}
theorem nxs_len (Ps : List (List Nat)) (c : Nat) (q : Pl) : (nxs Ps c q).length ≤ 1 := by
  unfold nxs
  split
  · simp
  · split
    · simp
    · split
      · simp
      · split <;> simp
theorem nst_len (Ps : List (List Nat)) (q : Pl) : (nst Ps q).length ≤ 1 := by
  unfold nst
  split
  · simp
  · split
    · split <;> simp
    · split <;> simp
theorem VP_nxs {Ps : List (List Nat)} {c : Nat} {q r : Pl} (h : VP Ps q) (hr : r ∈ nxs Ps c q) : VP Ps r := by
  obtain ⟨p, hp, h⟩ := h
  unfold nxs at hr
  rw [hp] at hr
  simp only at hr
  split at hr
  · rename_i e
    obtain rfl : r = (q.1, 1) := by simpa using hr
    exact ⟨p, hp, by rw [e]; exact Nat.le_succ 1⟩
  · split at hr
    · rename_i hm
      obtain rfl : r = (q.1, q.2 + 1) := by simpa using hr
      exact ⟨p, hp, by rcases hm with z | z <;> exact lt_of z⟩
    · split at hr
      · obtain rfl : r = (q.1, q.2) := by simpa using hr
        exact ⟨p, hp, h⟩
      · cases hr
theorem VP_nst {Ps : List (List Nat)} {q r : Pl} (h : VP Ps q) (hr : r ∈ nst Ps q) : VP Ps r := by
  obtain ⟨p, hp, h⟩ := h
  unfold nst at hr
  rw [hp] at hr
  simp only at hr
  split at hr
  · split at hr
    · obtain rfl : r = (q.1, 0) := by simpa using hr
      exact ⟨p, hp, Nat.zero_le _⟩
    · cases hr
  · split at hr
    · rename_i hm
      obtain rfl : r = (q.1 + 1, 0) := by simpa using hr
      exact ⟨_, List.getElem?_eq_getElem hm.2, Nat.zero_le _⟩
    · cases hr
theorem Cl_congr {Ps : List (List Nat)} {I J : Pl → Prop} (h : ∀ q, I q ↔ J q) (q : Pl) : Cl Ps I q ↔ Cl Ps J q := by
  have : I = J := funext fun q => propext (h q)
  rw [this]
/-- places as a value -/
def PV (d : D) (S : Pl → Prop) : Prop := ∃ G, d = .tup (pls G) ∧ (G.length ≤ 1001000 ∧ Srt G) ∧ ∀ q, q ∈ G ↔ S q
theorem first_ok [Has P 21 f21] [Has P 22 f22] [Has P 23 f23] (hs : s.length ≤ 999) : (run P (k + 3) 23 [.str s]).Ok fun r io => PV r (SP (parts 47 s) [] []) ∧ io = [none] := by
  refine cok_run (fn := ⟨[false], 1, b23⟩) (has P 23 f23) rfl ?_
  have hs2 : s.length + 2 ≤ 16777216 := by omega
  have hp : 0 < (parts 47 s).length := List.length_pos_iff.mpr (parts47_ne s)
  simp [b23, hs2]
  have e0 : [D.tup [.int 0, .int 0]] = pls [(0, 0)] := rfl
  rw [strsD_fold, e0]
  refine (closed_ok (k := k) (I := [(0, 0)]) (parts_ok hs) (fun q h => ?_) (by simp)).mono fun r io h => ?_
  · obtain rfl : q = (0, 0) := by simpa using h
    exact ⟨_, List.getElem?_eq_getElem hp, Nat.zero_le _⟩
  · obtain ⟨G, rfl, h1, h2, rfl⟩ := h
    refine ⟨G, rfl, h1, fun q => (h2 q).trans (Iff.trans (Cl_congr (fun q => ?_) q) (start_iff q))⟩
    simp [hp]
def I24 (s : List Nat) (c : Nat) (G : List Pl) (xs : List D) (e : Env) : Prop := ∃ A R w5 w6 w7 w8, e = [some (.str s), some (.tup (pls G)), some (.str [c]), some (.lst true (strsD (parts 47 s))), some (.lst true (pls A)), w5, w6, w7, w8] ∧ xs = pls R ∧ (∀ q ∈ R, VP (parts 47 s) q) ∧ A ++ R.flatMap (nxs (parts 47 s) c) = G.flatMap (nxs (parts 47 s) c) ∧ A.length + R.length ≤ G.length
theorem assign_pl {i j : Nat} {q : Pl} {e : Env} : assignT (.tp [i, j]) (plD q) e = some ((e.set i (some (.int q.1))).set j (some (.int q.2))) := rfl
theorem by_sign_ok [Has P 21 f21] [Has P 22 f22] [Has P 24 f24] (hs : s.length ≤ 999) {c : Nat} {G : List Pl} (hv : ∀ q ∈ G, VP (parts 47 s) q) (hl : G.length ≤ 1001000) :
    (run P (k + 3) 24 [.str s, .tup (pls G), .str [c]]).Ok fun r io => PV r (Cl (parts 47 s) fun q => ∃ p, p ∈ G ∧ q ∈ nxs (parts 47 s) c p) ∧ io = [none, none, none] := by
  refine cok_run (fn := ⟨[false, false, false], 9, b24⟩) (has P 24 f24) rfl ?_
  have hs2 : s.length + 2 ≤ 16777216 := by omega
  simp only [b24]
  refine w_cut (fun e => e = [some (.str s), some (.tup (pls G)), some (.str [c]), some (.lst true (strsD (parts 47 s))), none, none, none, none, none]) ?_ fun e he => ?_
  · simp [hs2, strsD_fold]
  subst he
  refine w_cut (fun e => e = [some (.str s), some (.tup (pls G)), some (.str [c]), some (.lst true (strsD (parts 47 s))), some (.lst true (pls [])), none, none, none, none]) ?_ fun e he => ?_
  · simp [pls_nil]
  subst he
  refine w_cut (I24 s c G []) ?_ fun e he => ?_
  · refine w_for (I24 s c G) ?_ (fun x r e he => ?_) fun e he => he
    · simp [pls_own]
      exact ⟨[], G, _, _, _, _, rfl, rfl, hv, rfl, by simp⟩
    · obtain ⟨A, R, w5, w6, w7, w8, rfl, e1, e2, e3, e4⟩ := he
      cases R with
      | nil => cases e1
      | cons q R =>
        obtain ⟨rfl, rfl⟩ : x = plD q ∧ r = pls R := by
          have : x :: r = plD q :: pls R := e1
          exact ⟨(List.cons.inj this).1, (List.cons.inj this).2⟩
        refine ⟨_, assign_pl, ?_⟩
        obtain ⟨p, hp, ha⟩ := e2 q List.mem_cons_self
        have ok := parts_ok hs
        have pl := ok.s p (List.mem_of_getElem? hp)
        have pl2 : p.length ≤ 16777216 := by omega
        have hv2 : ∀ q ∈ R, VP (parts 47 s) q := fun q h => e2 q (List.mem_cons_of_mem _ h)
        rw [List.flatMap_cons, ← List.append_assoc] at e3
        have nl := nxs_len (parts 47 s) c q
        rw [List.length_cons] at e4
        have done : ∀ w5 w6 w7 w8 B, B = A ++ nxs (parts 47 s) c q → I24 s c G (pls R) [some (.str s), some (.tup (pls G)), some (.str [c]), some (.lst true (strsD (parts 47 s))), some (.lst true (pls B)), w5, w6, w7, w8] := fun w5 w6 w7 w8 B hB => by
          subst hB
          exact ⟨_, R, _, _, _, _, rfl, rfl, hv2, e3, by rw [List.length_append]; omega⟩
        have al : A.length < 16777216 := by omega
        obtain ⟨i, a⟩ := q
        simp only at hp ha
        have en : nxs (parts 47 s) c (i, a) = if p = [42, 42] then [(i, 1)] else if p[a]? = some c ∨ p[a]? = some 63 then [(i, a + 1)] else if p[a]? = some 42 then [(i, a)] else [] := by
          unfold nxs
          simp only [hp]
        rw [en] at done
        simp [strsD_at hp, pl2, cut_one]
        by_cases ep : p = [42, 42]
        · subst ep
          simp at done
          simp [al]
          rw [show pls A ++ [D.tup [.int i, .int 1]] = pls (A ++ [(i, 1)]) from (pls_app A [(i, 1)]).symm]
          exact done _ _ _ _
        · simp only [if_neg ep] at done
          have ep2 : eqOf (.str p) (.str [42, 42]) = some false := by simp [ep]
          cases hx : p[a]? with
          | none =>
            simp [hx] at done
            simp [ep, inOf, D.dep, depL, D.peq]
            exact done _ _ _ _
          | some m =>
            simp [hx] at done
            by_cases h1 : c = m
            · subst h1
              simp at done
              simp [ep, inOf, D.dep, depL, D.peq, al]
              rw [show pls A ++ [D.tup [.int i, .int (a + 1)]] = pls (A ++ [(i, a + 1)]) from (pls_app A [(i, a + 1)]).symm]
              exact done _ _ _ _
            · by_cases h2 : 63 = m
              · subst h2
                simp at done
                simp [ep, inOf, D.dep, depL, D.peq, al]
                rw [show pls A ++ [D.tup [.int i, .int (a + 1)]] = pls (A ++ [(i, a + 1)]) from (pls_app A [(i, a + 1)]).symm]
                exact done _ _ _ _
              · have h1' : ¬ m = c := fun z => h1 z.symm
                have h2' : ¬ m = 63 := fun z => h2 z.symm
                simp [h1', h2'] at done
                simp [ep, inOf, D.dep, depL, D.peq, h1, h2]
                by_cases h3 : m = 42
                · subst h3
                  simp at done
                  simp [al]
                  rw [show pls A ++ [D.tup [.int i, .int a]] = pls (A ++ [(i, a)]) from (pls_app A [(i, a)]).symm]
                  exact done _ _ _ _
                · simp [h3] at done
                  simp [h3]
                  exact done _ _ _ _
  · obtain ⟨A, R, w5, w6, w7, w8, rfl, e1, e2, e3, e4⟩ := he
    obtain rfl : R = [] := by
      cases R with
      | nil => rfl
      | cons q R => cases e1
    simp only [List.flatMap_nil, List.append_nil] at e3
    simp [frz_strs, frz_pls]
    refine (closed_ok (k := k) (I := A) (parts_ok hs) (fun q h => ?_) (by simp at e4; omega)).mono fun r io h => ?_
    · rw [e3, List.mem_flatMap] at h
      obtain ⟨p, hp, hq⟩ := h
      exact VP_nxs (hv p hp) hq
    · obtain ⟨B, rfl, h1, h2, rfl⟩ := h
      refine ⟨B, rfl, h1, fun q => (h2 q).trans (Cl_congr (fun q => ?_) q)⟩
      rw [e3, List.mem_flatMap]
      exact ⟨fun ⟨p, a, b⟩ => ⟨p.1, p.2, a, b⟩, fun ⟨a, b, h1, h2⟩ => ⟨(a, b), h1, h2⟩⟩
def I25 (s : List Nat) (G : List Pl) (xs : List D) (e : Env) : Prop := ∃ A R w4 w5, e = [some (.str s), some (.tup (pls G)), some (.lst true (strsD (parts 47 s))), some (.lst true (pls A)), w4, w5] ∧ xs = pls R ∧ (∀ q ∈ R, VP (parts 47 s) q) ∧ A ++ R.flatMap (nst (parts 47 s)) = G.flatMap (nst (parts 47 s)) ∧ A.length + R.length ≤ G.length
theorem pls_uncons {x : D} {r : List D} {q : Pl} {R : List Pl} (h : x :: r = pls (q :: R)) : x = plD q ∧ r = pls R := by
  have : x :: r = plD q :: pls R := h
  exact ⟨(List.cons.inj this).1, (List.cons.inj this).2⟩
theorem by_stroke_ok [Has P 21 f21] [Has P 22 f22] [Has P 25 f25] (hs : s.length ≤ 999) {G : List Pl} (hv : ∀ q ∈ G, VP (parts 47 s) q) (hl : G.length ≤ 1001000) :
    (run P (k + 3) 25 [.str s, .tup (pls G)]).Ok fun r io => PV r (Cl (parts 47 s) fun q => ∃ p, p ∈ G ∧ q ∈ nst (parts 47 s) p) ∧ io = [none, none] := by
  refine cok_run (fn := ⟨[false, false], 6, b25⟩) (has P 25 f25) rfl ?_
  have hs2 : s.length + 2 ≤ 16777216 := by omega
  simp only [b25]
  refine w_cut (fun e => e = [some (.str s), some (.tup (pls G)), some (.lst true (strsD (parts 47 s))), none, none, none]) ?_ fun e he => ?_
  · simp [hs2, strsD_fold]
  subst he
  refine w_cut (fun e => e = [some (.str s), some (.tup (pls G)), some (.lst true (strsD (parts 47 s))), some (.lst true (pls [])), none, none]) ?_ fun e he => ?_
  · simp [pls_nil]
  subst he
  refine w_cut (I25 s G []) ?_ fun e he => ?_
  · refine w_for (I25 s G) ?_ (fun x r e he => ?_) fun e he => he
    · simp [pls_own]
      exact ⟨[], G, _, _, rfl, rfl, hv, rfl, by simp⟩
    · obtain ⟨A, R, w4, w5, rfl, e1, e2, e3, e4⟩ := he
      cases R with
      | nil => cases e1
      | cons q R =>
        obtain ⟨rfl, rfl⟩ := pls_uncons e1
        refine ⟨_, assign_pl, ?_⟩
        obtain ⟨p, hp, ha⟩ := e2 q List.mem_cons_self
        have ok := parts_ok hs
        have on := ok.n
        have pl := ok.s p (List.mem_of_getElem? hp)
        have pl2 : p.length ≤ 16777216 := by omega
        have hv2 : ∀ q ∈ R, VP (parts 47 s) q := fun q h => e2 q (List.mem_cons_of_mem _ h)
        rw [List.flatMap_cons, ← List.append_assoc] at e3
        have nl := nst_len (parts 47 s) q
        rw [List.length_cons] at e4
        have done : ∀ w4 w5 B, B = A ++ nst (parts 47 s) q → I25 s G (pls R) [some (.str s), some (.tup (pls G)), some (.lst true (strsD (parts 47 s))), some (.lst true (pls B)), w4, w5] := fun w4 w5 B hB => by
          subst hB
          exact ⟨_, R, _, _, rfl, rfl, hv2, e3, by rw [List.length_append]; omega⟩
        have al : A.length < 16777216 := by omega
        obtain ⟨i, a⟩ := q
        simp only at hp ha
        have en : nst (parts 47 s) (i, a) = if p = [42, 42] then (if a = 1 then [(i, 0)] else []) else if a = p.length ∧ i + 1 < (parts 47 s).length then [(i + 1, 0)] else [] := by
          unfold nst
          simp only [hp]
        rw [en] at done
        simp [strsD_at hp, pl2]
        by_cases ep : p = [42, 42]
        · subst ep
          by_cases h1 : a = 1
          · subst h1
            simp at done
            simp [al]
            rw [show pls A ++ [D.tup [.int i, .int 0]] = pls (A ++ [(i, 0)]) from (pls_app A [(i, 0)]).symm]
            exact done _ _
          · simp [h1] at done
            have h2 : ¬ (a : Int) = 1 := by omega
            simp [h1, h2]
            exact done _ _
        · simp only [if_neg ep] at done
          by_cases h1 : a = p.length
          · subst h1
            by_cases h2 : i + 1 < (parts 47 s).length
            · have h3 : (i : Int) + 1 < (parts 47 s).length := by omega
              simp [h2] at done
              simp [ep, h3, al]
              rw [show pls A ++ [D.tup [.int (i + 1), .int 0]] = pls (A ++ [(i + 1, 0)]) from (pls_app A [(i + 1, 0)]).symm]
              exact ⟨done _ _, fun h => by omega⟩
            · have h3 : ¬ (i : Int) + 1 < (parts 47 s).length := by omega
              simp [h2] at done
              simp [ep, h3]
              exact fun _ => done _ _
          · have h2 : ¬ (a : Int) = p.length := by omega
            simp [h1] at done
            simp [ep, h1, h2]
            exact done _ _
  · obtain ⟨A, R, w4, w5, rfl, e1, e2, e3, e4⟩ := he
    obtain rfl : R = [] := by
      cases R with
      | nil => rfl
      | cons q R => cases e1
    simp only [List.flatMap_nil, List.append_nil] at e3
    simp [frz_strs, frz_pls]
    refine (closed_ok (k := k) (I := A) (parts_ok hs) (fun q h => ?_) (by simp at e4; omega)).mono fun r io h => ?_
    · rw [e3, List.mem_flatMap] at h
      obtain ⟨p, hp, hq⟩ := h
      exact VP_nst (hv p hp) hq
    · obtain ⟨B, rfl, h1, h2, rfl⟩ := h
      refine ⟨B, rfl, h1, fun q => (h2 q).trans (Cl_congr (fun q => ?_) q)⟩
      rw [e3, List.mem_flatMap]
      exact ⟨fun ⟨p, a, b⟩ => ⟨p.1, p.2, a, b⟩, fun ⟨a, b, h1, h2⟩ => ⟨(a, b), h1, h2⟩⟩
def I26 (s : List Nat) (G : List Pl) (xs : List D) (e : Env) : Prop := ∃ R w3 w4 w5 w6, e = [some (.str s), some (.tup (pls G)), some (.lst true (strsD (parts 47 s))), w3, w4, w5, w6] ∧ xs = pls R ∧ (∀ q ∈ R, VP (parts 47 s) q) ∧ G.any (ends (parts 47 s)) = R.any (ends (parts 47 s))
theorem strsD_drop (ps : List (List Nat)) (n : Nat) : (strsD ps).drop n = strsD (ps.drop n) := List.map_drop.symm
def gStar (x : D) : Option D := match x with
  | .str p => some (.bl (p == [42, 42]))
  | _ => none
theorem gStar_fm (ps : List (List Nat)) : (strsD ps).filterMap gStar = ps.map fun p => .bl (p == [42, 42]) := by
  unfold strsD
  rw [List.filterMap_map]
  exact fm_some (fun p => D.bl (p == [42, 42])) _
theorem has_end_ok [Has P 26 f26] (hs : s.length ≤ 999) {G : List Pl} (hv : ∀ q ∈ G, VP (parts 47 s) q) : (run P (k + 1) 26 [.str s, .tup (pls G)]).Ok fun r io => r = .bl (G.any (ends (parts 47 s))) ∧ io = [none, none] := by
  refine cok_run (fn := ⟨[false, false], 7, b26⟩) (has P 26 f26) rfl ?_
  have hs2 : s.length + 2 ≤ 16777216 := by omega
  simp only [b26]
  refine w_cut (fun e => e = [some (.str s), some (.tup (pls G)), some (.lst true (strsD (parts 47 s))), none, none, none, none]) ?_ fun e he => ?_
  · simp [hs2, strsD_fold]
  subst he
  refine w_cut (I26 s G []) ?_ fun e he => ?_
  · refine w_for (I26 s G) ?_ (fun x r e he => ?_) fun e he => he
    · simp [pls_own]
      exact ⟨G, _, _, _, _, rfl, rfl, hv, rfl⟩
    · obtain ⟨R, w3, w4, w5, w6, rfl, e1, e2, e3⟩ := he
      cases R with
      | nil => cases e1
      | cons q R =>
        obtain ⟨rfl, rfl⟩ := pls_uncons e1
        refine ⟨_, assign_pl, ?_⟩
        obtain ⟨p, hp, ha⟩ := e2 q List.mem_cons_self
        have ok := parts_ok hs
        have on := ok.n
        have pl := ok.s p (List.mem_of_getElem? hp)
        have pl2 : p.length ≤ 16777216 := by omega
        have hv2 : ∀ q ∈ R, VP (parts 47 s) q := fun q h => e2 q (List.mem_cons_of_mem _ h)
        rw [List.any_cons] at e3
        obtain ⟨i, a⟩ := q
        simp only at hp ha
        have en : ends (parts 47 s) (i, a) = ((if p = [42, 42] then a == 1 else a == p.length) && ((parts 47 s).drop (i + 1)).all fun p => p == [42, 42]) := by
          unfold ends
          simp only [hp]
        rw [en] at e3
        rw [w_seq]
        refine O.Ok.mono (nx := fun e => e = [some (.str s), some (.tup (pls G)), some (.lst true (strsD (parts 47 s))), some (.int i), some (.int a), some (.bl (if p = [42, 42] then a == 1 else a == p.length)), w6]) (rt := fun _ _ => False) (bk := fun _ => False) (ct := fun _ => False) ?_ (fun e he => ?_) (fun _ _ h => h.elim) (fun _ h => h.elim) (fun _ h => h.elim)
        · simp [strsD_at hp, pl2]
          by_cases ep : p = [42, 42]
          · subst ep
            simp
            by_cases h1 : a = 1
            · subst h1; simp
            · have h2 : ¬ (a : Int) = 1 := by omega
              simp [h1, h2]
          · simp [ep]
            by_cases h1 : a = p.length
            · subst h1; simp
            · have h2 : ¬ (a : Int) = p.length := by omega
              simp [h1, h2]
        · subst he
          generalize hd : (if p = [42, 42] then a == 1 else a == p.length) = dn at e3
          cases dn with
          | false =>
            simp at e3
            simp
            exact ⟨R, _, _, _, _, rfl, rfl, hv2, e3⟩
          | true =>
            rw [Bool.true_and] at e3
            simp only [w_if, w_and, w_v, w_un, get_s, get_0, get_1, Option.some.injEq, exists_eq_left', tst_bl]
            refine ⟨fun _ => ?_, fun h => nomatch h⟩
            refine w_compF gStar (fun e => ∃ w6, e = [some (.str s), some (.tup (pls G)), some (.lst true (strsD (parts 47 s))), some (.int i), some (.int a), some (.bl true), w6]) ?_
            have ec : ((i : Int) + 1) = ((i + 1 : Nat) : Int) := by omega
            simp only [w_of, w_slcf, w_v, get_s, get_0, get_1, w_opf, w_c, Option.some.injEq, exists_eq_left', o_addi, own_lst, strsD_own, slice3_l, endOf_t, endOf_f, Option.bind_some, ec, cut_from, strsD_drop, it_l, Bool.true_or, Bool.false_eq_true, if_false]
            have dl : ((parts 47 s).drop (i + 1)).length ≤ 1000 := by rw [List.length_drop]; omega
            refine ⟨trivial, by rw [strsD_len]; unfold SL; omega, ⟨_, rfl⟩, fun x hx e he => ?_, fun e he => ?_⟩
            · obtain ⟨w, rfl⟩ := he
              obtain ⟨p, hp, rfl⟩ := List.mem_map.mp hx
              refine ⟨_, rfl, ?_⟩
              simp [gStar]
              exact Classical.em _ |>.symm
            · obtain ⟨w, rfl⟩ := he
              rw [gStar_fm, u_all, truths_bl]
              have ea : (((parts 47 s).drop (i + 1)).map fun p => p == [42, 42]).all id = ((parts 47 s).drop (i + 1)).all fun p => p == [42, 42] := by
                rw [List.all_map]; rfl
              simp only [Option.map_some, ea, Option.some.injEq, exists_eq_left']
              generalize ((parts 47 s).drop (i + 1)).all (fun p => p == [42, 42]) = b at e3 ⊢
              cases b with
              | true =>
                simp [restore, e3]
              | false =>
                rw [Bool.false_or] at e3
                simp [restore]
                exact ⟨R, _, _, _, _, rfl, rfl, hv2, e3⟩
  · obtain ⟨R, w3, w4, w5, w6, rfl, e1, e2, e3⟩ := he
    obtain rfl : R = [] := by
      cases R with
      | nil => rfl
      | cons q R => cases e1
    rw [e3]
    simp
end
end Z

set_option Elab.async false
set_option linter.all false
set_option maxRecDepth 100000
namespace Z
/-- a path: whole parts, no star -/
structure GP (t : List Nat) : Prop where
  ne : ∀ p ∈ parts 47 t, p ≠ []
  st : ∀ c ∈ t, c ≠ 42
theorem SP_VP {Ps us : List (List Nat)} {u : List Nat} {q : Pl} (h : SP Ps us u q) : VP Ps q := by
  obtain ⟨p, hp, h⟩ := h
  refine ⟨p, hp, ?_⟩
  split at h
  · rename_i e
    subst e
    rcases h.2 with ⟨z, _⟩ | ⟨z, _⟩ <;> (rw [z]; simp)
  · exact h.1
theorem PV_imp {d : D} {S S' : Pl → Prop} (h : PV d S) (hs : ∀ q, S q ↔ S' q) : PV d S' := by
  obtain ⟨G, a, b, c⟩ := h
  exact ⟨G, a, b, fun q => (c q).trans (hs q)⟩
theorem PV_frz {d : D} {S : Pl → Prop} (h : PV d S) : d.frz = d := by
  obtain ⟨G, rfl, _, _⟩ := h
  show D.tup (frzL (pls G)) = _
  rw [frz_pls]
theorem chrs_uncons {x : D} {r : List D} {R : List Nat} (h : x :: r = chrs R) : ∃ c R', R = c :: R' ∧ x = .str [c] ∧ r = chrs R' := by
  cases R with
  | nil => cases h
  | cons c R =>
    have : x :: r = D.str [c] :: chrs R := h
    exact ⟨c, R, rfl, (List.cons.inj this).1, (List.cons.inj this).2⟩
theorem strsD_uncons {x : D} {r : List D} {R : List (List Nat)} (h : x :: r = strsD R) : ∃ c R', R = c :: R' ∧ x = .str c ∧ r = strsD R' := by
  cases R with
  | nil => cases h
  | cons c R =>
    have : x :: r = D.str c :: strsD R := h
    exact ⟨c, R, rfl, (List.cons.inj this).1, (List.cons.inj this).2⟩
section
variable {P : Nat → Option Fn} {k : Nat} {s t : List Nat}
/-- one sign further -/
theorem step_ok [Has P 21 f21] [Has P 22 f22] [Has P 24 f24] (hs : s.length ≤ 999) {c : Nat} {us : List (List Nat)} {u : List Nat} {d : D} (hd : PV d (SP (parts 47 s) us u)) (hc : c ≠ 42) :
    (run P (k + 3) 24 [.str s, d, .str [c]]).Ok fun r io => PV r (SP (parts 47 s) us (u ++ [c])) ∧ io = [none, none, none] := by
  obtain ⟨G, rfl, h1, h2⟩ := hd
  refine (by_sign_ok (k := k) hs (fun q hq => SP_VP ((h2 q).mp hq)) h1.1).mono fun r io h => ?_
  refine ⟨PV_imp h.1 fun q => Iff.trans (Cl_congr (fun q => ?_) q) (sign_iff hc q), h.2⟩
  exact ⟨fun ⟨p, a, b⟩ => ⟨p, (h2 p).mp a, b⟩, fun ⟨p, a, b⟩ => ⟨p, (h2 p).mpr a, b⟩⟩
theorem slash_ok [Has P 21 f21] [Has P 22 f22] [Has P 25 f25] (hs : s.length ≤ 999) {us : List (List Nat)} {u : List Nat} {d : D} (hd : PV d (SP (parts 47 s) us u)) (hu : u ≠ []) :
    (run P (k + 3) 25 [.str s, d]).Ok fun r io => PV r (SP (parts 47 s) (us ++ [u]) []) ∧ io = [none, none] := by
  obtain ⟨G, rfl, h1, h2⟩ := hd
  refine (by_stroke_ok (k := k) hs (fun q hq => SP_VP ((h2 q).mp hq)) h1.1).mono fun r io h => ?_
  refine ⟨PV_imp h.1 fun q => Iff.trans (Cl_congr (fun q => ?_) q) (stroke_iff hu q), h.2⟩
  exact ⟨fun ⟨p, a, b⟩ => ⟨p, (h2 p).mp a, b⟩, fun ⟨p, a, b⟩ => ⟨p, (h2 p).mpr a, b⟩⟩
theorem ended_ok [Has P 26 f26] (hs : s.length ≤ 999) {us : List (List Nat)} {u : List Nat} {d : D} (hd : PV d (SP (parts 47 s) us u)) (hu : u ≠ []) :
    (run P (k + 1) 26 [.str s, d]).Ok fun r io => r = .bl (Bf (parts 47 s) (us ++ [u])) ∧ io = [none, none] := by
  obtain ⟨G, rfl, h1, h2⟩ := hd
  refine (has_end_ok (k := k) hs (fun q hq => SP_VP ((h2 q).mp hq))).mono fun r io h => ?_
  refine ⟨?_, h.2⟩
  rw [h.1]
  congr 1
  rw [Bool.eq_iff_iff, List.any_eq_true, ← end_iff hu]
  exact ⟨fun ⟨q, a, b⟩ => ⟨q, (h2 q).mp a, b⟩, fun ⟨q, a, b⟩ => ⟨q, (h2 q).mpr a, b⟩⟩
end
end Z

set_option Elab.async false
set_option linter.all false
set_option maxRecDepth 100000
namespace Z
def Gc (c : Nat) : Prop := c ≠ 42 ∧ c ≠ 47
structure Gp (n : Nat) (p : List Nat) : Prop where
  ne : p ≠ []
  ch : ∀ c ∈ p, Gc c
  le : p.length ≤ n
def GpD (n : Nat) (d : D) : Prop := ∃ p, d = .str p ∧ Gp n p
theorem gp_list {n : Nat} : ∀ {xs : List D}, All (GpD n) xs → ∃ ps, xs = strsD ps ∧ ∀ p ∈ ps, Gp n p
  | [], _ => ⟨[], rfl, fun _ h => nomatch h⟩
  | x :: xs, h => by
    obtain ⟨p, rfl, hp⟩ := h x List.mem_cons_self
    obtain ⟨ps, rfl, hs⟩ := gp_list (xs := xs) fun y hy => h y (List.mem_cons_of_mem _ hy)
    refine ⟨p :: ps, rfl, fun q hq => ?_⟩
    rcases List.mem_cons.mp hq with z | z
    · subst z; exact hp
    · exact hs q z
theorem gp_strs {n : Nat} {ps : List (List Nat)} (h : ∀ p ∈ ps, Gp n p) : All (GpD n) (strsD ps) := fun x hx => by
  obtain ⟨p, hp, rfl⟩ := List.mem_map.mp hx
  exact ⟨p, rfl, h p hp⟩
theorem strsOf_strs : ∀ ps : List (List Nat), strsOf (strsD ps) = some ps
  | [] => rfl
  | p :: ps => by
    show (strsOf (strsD ps)).map (p :: ·) = _
    rw [strsOf_strs ps]; rfl
theorem sum_le {n : Nat} : ∀ {ps : List (List Nat)}, (∀ p ∈ ps, Gp n p) → (ps.map List.length).sum ≤ ps.length * n
  | [], _ => by simp
  | p :: ps, h => by
    have ih := sum_le (ps := ps) fun q hq => h q (List.mem_cons_of_mem _ hq)
    have := (h p List.mem_cons_self).le
    simp only [List.map_cons, List.sum_cons, List.length_cons, Nat.add_mul]
    omega
/-- a path -/
structure GT (n : Nat) (t : List Nat) : Prop where
  g : GP t
  le : t.length ≤ n
theorem parts_one : ∀ {p : List Nat}, (∀ c ∈ p, c ≠ 47) → parts 47 p = [p]
  | [], _ => rfl
  | c :: p, h => by
    rw [parts_c, if_neg (h c List.mem_cons_self), parts_one fun x hx => h x (List.mem_cons_of_mem _ hx)]
theorem parts_joined : ∀ {ps : List (List Nat)}, ps ≠ [] → (∀ p ∈ ps, ∀ c ∈ p, c ≠ 47) → parts 47 (joined [47] ps) = ps
  | [], h, _ => absurd rfl h
  | [p], _, h => parts_one (h p List.mem_cons_self)
  | p :: q :: r, _, h => by
    have ih := parts_joined (ps := q :: r) (by simp) fun x hx => h x (List.mem_cons_of_mem _ hx)
    show parts 47 (p ++ ([47] ++ joined [47] (q :: r))) = _
    rw [List.singleton_append, parts_app, ih, parts_one (h p List.mem_cons_self)]
    rfl
theorem joinedN_mem {c : Nat} : ∀ {ps : List (List Nat)}, c ∈ joined [47] ps → c = 47 ∨ ∃ p ∈ ps, c ∈ p
  | [], h => by simp [joined] at h
  | [p], h => .inr ⟨p, List.mem_cons_self, h⟩
  | p :: q :: r, h => by
    have h : c ∈ p ++ ([47] ++ joined [47] (q :: r)) := h
    rcases List.mem_append.mp h with z | z
    · exact .inr ⟨p, List.mem_cons_self, z⟩
    · rcases List.mem_append.mp z with z | z
      · exact .inl (List.mem_singleton.mp z)
      · rcases joinedN_mem z with z | ⟨x, hx, z⟩
        · exact .inl z
        · exact .inr ⟨x, List.mem_cons_of_mem _ hx, z⟩
theorem GP_joined {n : Nat} {ps : List (List Nat)} (hn : ps ≠ []) (h : ∀ p ∈ ps, Gp n p) : GP (joined [47] ps) := by
  refine ⟨fun p hp => ?_, fun c hc z => ?_⟩
  · rw [parts_joined hn fun p hp c hc => ((h p hp).ch c hc).2] at hp
    exact (h p hp).ne
  · rcases joinedN_mem hc with y | ⟨p, hp, y⟩
    · rw [y] at z; cases z
    · exact ((h p hp).ch c y).1 z
theorem GT_joined {n m : Nat} {ps : List (List Nat)} (hn : ps ≠ []) (h : ∀ p ∈ ps, Gp n p) (hm : ps.length ≤ m) : GT (m * (n + 1)) (joined [47] ps) := by
  refine ⟨GP_joined hn h, ?_⟩
  have h1 := joined_len (sep := [47]) ps
  have h2 := sum_le h
  have h3 : ps.length * (n + 1) ≤ m * (n + 1) := Nat.mul_le_mul_right _ hm
  rw [Nat.mul_add, Nat.mul_one] at h3
  simp at h1
  omega
theorem join_gt {n m : Nat} {o : Bool} {ps : List (List Nat)} (hn : ps ≠ []) (h : ∀ p ∈ ps, Gp n p) (hm : ps.length ≤ m) (hb : m * (n + 1) ≤ 16777216) : ∃ t, op2 .join (.str [47]) (.lst o (strsD ps)) = some (.str t) ∧ GT (m * (n + 1)) t := by
  refine ⟨_, ?_, GT_joined hn h hm⟩
  have h2 := sum_le h
  have h3 : ps.length * (n + 1) ≤ m * (n + 1) := Nat.mul_le_mul_right _ hm
  rw [Nat.mul_add, Nat.mul_one] at h3
  rw [o_join, strsOf_strs, Option.bind_some, if_pos]
  simp
  omega
theorem parts47_mem {t : List Nat} : ∀ p ∈ parts 47 t, ∀ c ∈ p, c ∈ t ∧ c ≠ 47 := by
  induction t with
  | nil => intro p hp c hc; simp [parts] at hp; subst hp; cases hc
  | cons x t ih =>
    intro p hp c hc
    rw [parts_c] at hp
    by_cases hx : x = 47
    · rw [if_pos hx] at hp
      rcases List.mem_cons.mp hp with z | z
      · subst z; cases hc
      · obtain ⟨a, b⟩ := ih p z c hc
        exact ⟨List.mem_cons_of_mem _ a, b⟩
    · rw [if_neg hx] at hp
      cases e : parts 47 t with
      | nil => exact absurd e (parts47_ne t)
      | cons q qs =>
        rw [e] at hp ih
        rcases List.mem_cons.mp hp with z | z
        · subst z
          rcases List.mem_cons.mp hc with z | z
          · subst z; exact ⟨List.mem_cons_self, hx⟩
          · obtain ⟨a, b⟩ := ih q List.mem_cons_self c z
            exact ⟨List.mem_cons_of_mem _ a, b⟩
        · obtain ⟨a, b⟩ := ih p (List.mem_cons_of_mem _ z) c hc
          exact ⟨List.mem_cons_of_mem _ a, b⟩
theorem GP_parts {n : Nat} {t : List Nat} (h : GT n t) : ∀ p ∈ parts 47 t, Gp n p := fun p hp =>
  ⟨h.g.ne p hp, fun c hc => ⟨h.g.st c (parts47_mem p hp c hc).1, (parts47_mem p hp c hc).2⟩, Nat.le_trans ((parts_bd t).2 p hp) h.le⟩
theorem parts_cat : ∀ {a b : List Nat} {us vs : List (List Nat)} {u v : List Nat}, parts 47 a = us ++ [u] → parts 47 b = v :: vs → parts 47 (a ++ b) = us ++ (u ++ v) :: vs
  | [], b, us, vs, u, v, h, hb => by
    have : us = [] ∧ u = [] := by
      cases us with
      | nil => simp [parts] at h; exact ⟨rfl, h⟩
      | cons x us => cases us <;> simp [parts] at h
    obtain ⟨rfl, rfl⟩ := this
    exact hb
  | x :: a, b, us, vs, u, v, h, hb => by
    rw [List.cons_append, parts_c]
    rw [parts_c] at h
    by_cases hx : x = 47
    · rw [if_pos hx] at h ⊢
      cases us with
      | nil =>
        simp only [List.nil_append, List.cons.injEq] at h
        exact absurd h.2 (parts47_ne a)
      | cons y us =>
        simp only [List.cons_append, List.cons.injEq] at h
        obtain ⟨rfl, h⟩ := h
        rw [parts_cat h hb]
        rfl
    · rw [if_neg hx] at h ⊢
      cases e : parts 47 a with
      | nil => exact absurd e (parts47_ne a)
      | cons p ps =>
        rw [e] at h
        simp only at h
        cases us with
        | nil =>
          simp only [List.nil_append, List.cons.injEq] at h
          obtain ⟨rfl, rfl⟩ := h
          rw [parts_cat (us := []) e hb]
          rfl
        | cons y us =>
          simp only [List.cons_append, List.cons.injEq] at h
          obtain ⟨rfl, rfl⟩ := h
          rw [parts_cat (us := p :: us) (u := u) e hb]
          rfl
theorem GP_insert {a b : List Nat} {c : Nat} (h : GP (a ++ b)) (hc : Gc c) : GP (a ++ (c :: b)) := by
  obtain ⟨us, u, ea⟩ : ∃ us u, parts 47 a = us ++ [u] := by
    rcases snoc_cases (parts 47 a) with z | ⟨us, u, z⟩
    · exact absurd z (parts47_ne a)
    · exact ⟨us, u, z⟩
  obtain ⟨v, vs, eb⟩ : ∃ v vs, parts 47 b = v :: vs := by
    cases e : parts 47 b with
    | nil => exact absurd e (parts47_ne b)
    | cons v vs => exact ⟨v, vs, rfl⟩
  have e1 := parts_cat ea eb
  have e2 : parts 47 (a ++ c :: b) = us ++ (u ++ c :: v) :: vs := parts_cat ea (by rw [parts_c, if_neg hc.2, eb])
  refine ⟨fun p hp => ?_, fun x hx => ?_⟩
  · rw [e2] at hp
    have h1 := h.ne
    rw [e1] at h1
    rcases List.mem_append.mp hp with z | z
    · exact h1 p (List.mem_append_left _ z)
    · rcases List.mem_cons.mp z with z | z
      · subst z; simp
      · exact h1 p (List.mem_append_right _ (List.mem_cons_of_mem _ z))
  · rcases List.mem_append.mp hx with z | z
    · exact h.st x (List.mem_append_left _ z)
    · rcases List.mem_cons.mp z with z | z
      · subst z; exact hc.1
      · exact h.st x (List.mem_append_right _ z)
theorem GP_ne {t : List Nat} (h : GP t) : t ≠ [] := fun z => by
  subst z
  exact h.ne [] (by simp [parts]) rfl
theorem sgn_gc : ∀ c ∈ sgn, Gc c := by unfold Gc sgn; decide
theorem mem_cut {α : Type} {s : List α} {l h : Option Int} {c : α} (hc : c ∈ cut s l h) : c ∈ s := List.mem_of_mem_drop (List.mem_of_mem_take hc)
structure Gs (g : List Nat) : Prop where
  ne : g ≠ []
  ch : ∀ c ∈ g, Gc c
  le : g.length ≤ 3
section
variable {P : Nat → Option Fn} {k : Nat} {d : D} {g : List Nat}
theorem few_ok2 [Has P 2 f2] [Has P 5 f5] [Has P 6 f6] (hd : Dr d) : (run P (k + 2) 6 [d]).Ok fun r io => ∃ g d', r = .str g ∧ Gs g ∧ Dr d' ∧ io = [some d'] := by
  refine cok_run (fn := ⟨[true], 2, b6⟩) (has P 6 f6) rfl ?_
  simp [b6]
  refine (draw_ok h2 hd (by omega) (by omega)).mono fun r io h => ?_
  obtain ⟨r', d', rfl, q1, q2, hd', rfl⟩ := h
  simp
  refine signs_ok.mono fun r io h => ?_
  obtain ⟨rfl, rfl⟩ := h
  have hs : sgn.length = 27 := rfl
  simp [hs]
  refine (draw_ok h2 hd' (by omega) (by omega)).mono fun r io h => ?_
  obtain ⟨r2, d2, rfl, p1, p2, hd2, rfl⟩ := h
  obtain ⟨x, e, m⟩ := at_in (xs := [.str [46, 97], .str [97, 98], .str [97, 98, 122], .str [46, 97, 98], .str (cut sgn (some r') (some (r' + 3)))]) p1 (by simpa using p2)
  have hc : (cut sgn (some r') (some (r' + 3))).length = 3 := cut_n (n := 3) q1 (by rw [hs]; omega)
  simp [e]
  simp only [List.mem_cons, List.not_mem_nil, or_false] at m
  rcases m with rfl | rfl | rfl | rfl | rfl
  · exact ⟨_, rfl, ⟨by simp, by unfold Gc; decide, by simp⟩, hd2⟩
  · exact ⟨_, rfl, ⟨by simp, by unfold Gc; decide, by simp⟩, hd2⟩
  · exact ⟨_, rfl, ⟨by simp, by unfold Gc; decide, by simp⟩, hd2⟩
  · exact ⟨_, rfl, ⟨by simp, by unfold Gc; decide, by simp⟩, hd2⟩
  · exact ⟨_, rfl, ⟨fun z => by rw [z] at hc; simp at hc, fun c hc => sgn_gc c (mem_cut hc), by omega⟩, hd2⟩
/-- one sign -/
def G1 (d : D) : Prop := ∃ c, d = .str [c] ∧ Gc c
theorem g1_join {xs : List D} {o : Bool} (h : All G1 xs) (hl : xs.length ≤ 1000) : ∃ s, op2 .join (.str []) (.lst o xs) = some (.str s) ∧ s.length = xs.length ∧ ∀ c ∈ s, Gc c := by
  have key : ∀ {xs : List D}, All G1 xs → ∃ ss : List (List Nat), strsOf xs = some ss ∧ ss.length = xs.length ∧ (ss.map List.length).sum = xs.length ∧ (joined [] ss).length = xs.length ∧ ∀ c ∈ joined [] ss, Gc c := by
    intro xs
    induction xs with
    | nil => intro _; exact ⟨[], rfl, rfl, rfl, rfl, fun _ h => nomatch h⟩
    | cons x xs ih =>
      intro h
      obtain ⟨c, rfl, hc⟩ := h x List.mem_cons_self
      obtain ⟨ss, e1, e2, e3, e4, e5⟩ := ih fun y hy => h y (List.mem_cons_of_mem _ hy)
      have ej : joined [] ([c] :: ss) = c :: joined [] ss := by cases ss <;> simp [joined]
      refine ⟨[c] :: ss, by simp [strsOf, e1], by simp [e2], by simp [e3]; omega, by rw [ej]; simp [e4], fun y hy => ?_⟩
      rw [ej] at hy
      rcases List.mem_cons.mp hy with z | z
      · subst z; exact hc
      · exact e5 y z
  obtain ⟨ss, e1, e2, e3, e4, e5⟩ := key h
  refine ⟨joined [] ss, ?_, e4, e5⟩
  rw [o_join, e1, Option.bind_some, if_pos]
  simp
  omega
theorem part_ok2 [Has P 2 f2] [Has P 3 f3] [Has P 7 f7] (hd : Dr d) (hg : Gs g) : (run P (k + 3) 7 [d, .str g]).Ok fun r io => ∃ d', GpD 3 r ∧ Dr d' ∧ io = [some d', none] := by
  refine cok_run (fn := ⟨[true, false], 3, b7⟩) (has P 7 f7) rfl ?_
  have h1 := hg.ne
  have hl := hg.le
  simp only [b7, w_ret, w_opf, w_c]
  refine w_comp (fun acc xs s => ∃ d w n, s = [some d, some (.str g), w] ∧ Dr d ∧ All G1 acc ∧ acc.length + xs.length = n ∧ 1 ≤ n ∧ n ≤ 3) ?_
  simp
  refine (draw_ok h2 hd (by omega) (by omega)).mono fun r io h => ?_
  obtain ⟨r', d', rfl, q1, q2, hd', rfl⟩ := h
  simp
  refine ⟨_, rng1_ok (by omega) (by omega), ?_, ⟨hd', All.nil, by rw [rangeUp_len]; omega, by rw [rangeUp_len]; omega⟩, ?_, ?_⟩
  · rw [rangeUp_len]; omega
  · intro acc x r s d1 w hs hd1 ha hl1 hl2
    subst hs
    simp [wipe]
    refine (of_str hd1 h1 (by omega)).mono fun r io h => ?_
    obtain ⟨d2, c, rfl, m, hd2, rfl⟩ := h
    simp
    exact ⟨hd2, ha.snoc ⟨_, rfl, hg.ch c m⟩, by omega, by omega⟩
  · intro ys s2 d1 w hs hd1 ha hl1 hl2
    subst hs
    simp [restore]
    obtain ⟨t, e, ht, hc⟩ := g1_join (o := true) ha (by omega)
    exact ⟨_, e, ⟨t, rfl, fun z => by subst z; simp at ht; omega, hc, by omega⟩, hd1⟩
theorem path_ok2 [Has P 2 f2] [Has P 3 f3] [Has P 7 f7] [Has P 8 f8] (hd : Dr d) (hg : Gs g) : (run P (k + 4) 8 [d, .str g]).Ok fun r io => ∃ t d', r = .str t ∧ GT 16 t ∧ Dr d' ∧ io = [some d', none] := by
  refine cok_run (fn := ⟨[true, false], 3, b8⟩) (has P 8 f8) rfl ?_
  simp only [b8, w_ret, w_opf, w_c]
  refine w_comp (fun acc xs s => ∃ d w n, s = [some d, some (.str g), w] ∧ Dr d ∧ All (GpD 3) acc ∧ acc.length + xs.length = n ∧ 1 ≤ n ∧ n ≤ 4) ?_
  simp
  refine (draw_ok h2 hd (by omega) (by omega)).mono fun r io h => ?_
  obtain ⟨r', d', rfl, q1, q2, hd', rfl⟩ := h
  simp
  refine ⟨_, rng1_ok (by omega) (by omega), ?_, ⟨hd', All.nil, by rw [rangeUp_len]; omega, by rw [rangeUp_len]; omega⟩, ?_, ?_⟩
  · rw [rangeUp_len]; omega
  · intro acc x r s d1 w hs hd1 ha hl1 hl2
    subst hs
    simp [wipe]
    refine (part_ok2 hd1 hg).mono fun r io h => ?_
    obtain ⟨d2, m, hd2, rfl⟩ := h
    simp
    exact ⟨hd2, ha.snoc m, by omega, by omega⟩
  · intro ys s2 d1 w hs hd1 ha hl1 hl2
    subst hs
    simp [restore]
    obtain ⟨ps, rfl, hp⟩ := gp_list ha
    rw [strsD_len] at hl1 hl2
    obtain ⟨t, e, ht⟩ := join_gt (o := true) (m := 4) (fun z => by subst z; simp at hl1) hp (by omega) (by decide)
    exact ⟨_, e, t, rfl, ht, hd1⟩
end
end Z

set_option Elab.async false
set_option linter.all false
set_option maxRecDepth 100000
/-! k05: 139 and 165: as 28 and 29, for longer patterns. -/
namespace Z
theorem strsD_dep : ∀ ps : List (List Nat), depL (strsD ps) = 0
  | [] => rfl
  | p :: ps => by
    show max (D.str p).dep (depL (strsD ps)) = 0
    rw [strsD_dep ps]; rfl
theorem Gp_mono {n m : Nat} {p : List Nat} (h : Gp n p) (hm : n ≤ m) : Gp m p := ⟨h.ne, h.ch, Nat.le_trans h.le hm⟩
theorem GpD_mono {n m : Nat} {d : D} (h : GpD n d) (hm : n ≤ m) : GpD m d := by
  obtain ⟨p, e, h⟩ := h
  exact ⟨p, e, Gp_mono h hm⟩
theorem GT_part {n : Nat} {p : List Nat} (h : Gp n p) : GT n p := by
  have e := parts_one (p := p) fun c hc => (h.ch c hc).2
  refine ⟨⟨fun q hq => ?_, fun c hc => (h.ch c hc).1⟩, h.le⟩
  rw [e] at hq
  rw [List.mem_singleton.mp hq]; exact h.ne
theorem GT_mono {n m : Nat} {t : List Nat} (h : GT n t) (hm : n ≤ m) : GT m t := ⟨h.g, Nat.le_trans h.le hm⟩
theorem at_small {xs : List D} {i : Int} {n : Nat} (hx : ∀ x ∈ xs, ∃ j : Int, x = .int j ∧ 0 ≤ j ∧ j ≤ n) (h0 : 0 ≤ i) (h1 : i < xs.length) : ∃ j : Int, at_ xs i = some (.int j) ∧ 0 ≤ j ∧ j ≤ n := by
  obtain ⟨x, e, m⟩ := at_in h0 h1
  obtain ⟨j, rfl, a, b⟩ := hx x m
  exact ⟨j, e, a, b⟩
theorem strsD_app (a b : List (List Nat)) : strsD (a ++ b) = strsD a ++ strsD b := List.map_append ..
section
variable {P : Nat → Option Fn} {k : Nat} {d : D} {g : List Nat}
def I139 (g p : List Nat) (xs : List D) (e : Env) : Prop := ∃ d f R w4 w5, e = [some d, some (.str g), some (.str p), some (.str f), w4, w5] ∧ xs = chrs R ∧ Dr d ∧ (∀ c ∈ f, Gc c) ∧ (∀ c ∈ R, c ≠ 47) ∧ f.length + 3 * R.length ≤ 3 * p.length
theorem filled_ok3 [Has P 2 f2] [Has P 3 f3] [Has P 139 f139] (hd : Dr d) (hg : Gs g) {p : List Nat} (hp : ∀ c ∈ p, c ≠ 47) (hl : p.length ≤ 1000) : (run P (k + 3) 139 [d, .str g, .str p]).Ok fun r io => ∃ d', GpD (3 * p.length + 1) r ∧ Dr d' ∧ io = [some d', none, none] := by
  refine cok_run (fn := ⟨[true, false, false], 6, b139⟩) (has P 139 f139) rfl ?_
  have h1 := hg.ne
  have hgl := hg.le
  have hl2 : p.length ≤ 16777216 := by omega
  simp only [b139]
  refine w_cut (I139 g p (chrs p)) ?_ fun e he => ?_
  · simp
    exact ⟨d, [], p, _, _, rfl, rfl, hd, (fun _ h => nomatch h), hp, by simp⟩
  refine w_cut (I139 g p []) ?_ fun e he => ?_
  · refine w_for (I139 g p) ?_ (fun x r e he => ?_) fun e he => he
    · obtain ⟨d, f, R, w4, w5, rfl, e1, e2, e3, e4, e5⟩ := he
      simp [hl2]
      exact ⟨chrs_own p, d, f, R, _, _, rfl, e1, e2, e3, e4, e5⟩
    · obtain ⟨d, f, R, w4, w5, rfl, e1, e2, e3, e4, e5⟩ := he
      obtain ⟨c, R, rfl, rfl, rfl⟩ := chrs_uncons e1
      refine ⟨[some d, some (.str g), some (.str p), some (.str f), some (.str [c]), w5], rfl, ?_⟩
      rw [List.length_cons] at e5
      have e4' : ∀ c ∈ R, c ≠ 47 := fun x hx => e4 x (List.mem_cons_of_mem _ hx)
      have c47 := e4 c List.mem_cons_self
      by_cases hc : c = 42
      · subst hc
        simp only [w_if, w_opf, w_v, get_s, get_0, get_1, w_c, Option.some.injEq, exists_eq_left', o_eq, eqOf_s, Option.map_some, tst_bl, w_asg]
        refine ⟨fun _ => ?_, fun h => by simp at h⟩
        refine w_comp (fun acc xs s => ∃ d w n, s = [some d, some (.str g), some (.str p), some (.str f), some (.str [42]), w] ∧ Dr d ∧ All G1 acc ∧ acc.length + xs.length = n ∧ n ≤ 3) ?_
        simp
        refine (draw_ok h2 e2 (by omega) (by omega)).mono fun r io h => ?_
        obtain ⟨r', d', rfl, q1, q2, hd', rfl⟩ := h
        obtain ⟨j, ea, ja, jb⟩ := at_small (xs := [.int 0, .int 0, .int 1, .int 2, .int 3]) (i := r') (n := 3) (by
          intro x hx
          simp only [List.mem_cons, List.not_mem_nil, or_false] at hx
          rcases hx with rfl | rfl | rfl | rfl | rfl <;> exact ⟨_, rfl, by decide, by decide⟩) q1 (by simpa using q2)
        simp [ea]
        refine ⟨_, rng1_ok (by omega) (by omega), ?_, ⟨hd', All.nil, by rw [rangeUp_len]; omega⟩, ?_, ?_⟩
        · rw [rangeUp_len]; omega
        · intro acc x r s d1 w hs hd1 ha hl1
          subst hs
          simp [wipe]
          refine (of_str hd1 h1 (by omega)).mono fun r io h => ?_
          obtain ⟨d2, c, rfl, m, hd2, rfl⟩ := h
          simp
          exact ⟨hd2, ha.snoc ⟨_, rfl, hg.ch c m⟩, by omega⟩
        · intro ys s2 d1 w hs hd1 ha hl1
          subst hs
          simp [restore]
          obtain ⟨t, e, ht, hc⟩ := g1_join (o := true) ha (by first | omega | (simp at hl1; omega))
          refine ⟨_, e, ?_⟩
          have hl3 : ys.length ≤ 3 := by simpa using hl1
          have hs : f.length + t.length ≤ 16777216 := by omega
          simp [hs]
          refine ⟨d1, f ++ t, R, _, _, rfl, rfl, hd1, fun c hx => ?_, e4', by rw [List.length_append]; omega⟩
          rcases List.mem_append.mp hx with z | z
          · exact e3 c z
          · exact hc c z
      · have fl : f.length + 1 ≤ 16777216 := by omega
        have done : ∀ d x, Dr d → Gc x → ∀ w4 w5, I139 g p (chrs R) [some d, some (.str g), some (.str p), some (.str (f ++ [x])), w4, w5] := fun d x hd hx w4 w5 => by
          refine ⟨d, f ++ [x], R, _, _, rfl, rfl, hd, fun c hx => ?_, e4', by rw [List.length_append]; simp; omega⟩
          rcases List.mem_append.mp hx with z | z
          · exact e3 c z
          · rw [List.mem_singleton.mp z]; assumption
        by_cases hq : c = 63
        · subst hq
          simp
          refine (of_str e2 h1 (by omega)).mono fun r io h => ?_
          obtain ⟨d2, x, rfl, m, hd2, rfl⟩ := h
          have fl2 : f.length ≤ 16777215 := by omega
          simp [fl, fl2]
          exact done _ _ hd2 (hg.ch x m) _ _
        · have fl2 : f.length ≤ 16777215 := by omega
          simp [hc, hq, fl, fl2]
          exact done _ _ e2 ⟨hc, c47⟩ _ _
  · obtain ⟨d, f, R, w4, w5, rfl, e1, e2, e3, e4, e5⟩ := he
    by_cases hf : f = []
    · subst hf
      simp
      refine (of_str e2 h1 (by omega)).mono fun r io h => ?_
      obtain ⟨d2, x, rfl, m, hd2, rfl⟩ := h
      simp
      refine ⟨⟨[x], rfl, by simp, fun c hc => ?_, by simp⟩, hd2⟩
      rw [List.mem_singleton.mp hc]; exact hg.ch x m
    · simp [hf]
      exact ⟨⟨f, rfl, hf, e3, by omega⟩, e2⟩
def I165 (g s : List Nat) (xs : List D) (e : Env) : Prop := ∃ d ps R w4 w5, e = [some d, some (.str g), some (.str s), some (.lst true (strsD ps)), w4, w5] ∧ xs = strsD R ∧ Dr d ∧ (∀ p ∈ ps, Gp 3001 p) ∧ (∀ p ∈ R, p ∈ parts 47 s) ∧ ps.length + 2 * R.length ≤ 2002
theorem fitting_ok3 [Has P 2 f2] [Has P 3 f3] [Has P 7 f7] [Has P 139 f139] [Has P 165 f165] (hd : Dr d) (hg : Gs g) {s : List Nat} (hs : s.length ≤ 1000) : (run P (k + 4) 165 [d, .str g, .str s]).Ok fun r io => ∃ t d', r = .str t ∧ GT 6010004 t ∧ Dr d' ∧ io = [some d', none, none] := by
  refine cok_run (fn := ⟨[true, false, false], 6, b165⟩) (has P 165 f165) rfl ?_
  have hs2 : s.length + 2 ≤ 16777216 := by omega
  obtain ⟨pn, pl⟩ := parts_bd s
  simp only [b165]
  refine w_cut (I165 g s (strsD (parts 47 s))) ?_ fun e he => ?_
  · simp
    exact ⟨d, [], parts 47 s, _, _, rfl, rfl, hd, (fun _ h => nomatch h), fun p hp => hp, by simp; omega⟩
  refine w_cut (I165 g s []) ?_ fun e he => ?_
  · refine w_for (I165 g s) ?_ (fun x r e he => ?_) fun e he => he
    · obtain ⟨d, ps, R, w4, w5, rfl, e1, e2, e3, e4, e5⟩ := he
      simp [hs2, strsD_fold]
      exact ⟨strsD_own _, d, ps, R, _, _, rfl, e1, e2, e3, e4, e5⟩
    · obtain ⟨d, ps, R, w4, w5, rfl, e1, e2, e3, e4, e5⟩ := he
      obtain ⟨p, R, rfl, rfl, rfl⟩ := strsD_uncons e1
      refine ⟨[some d, some (.str g), some (.str s), some (.lst true (strsD ps)), some (.str p), w5], rfl, ?_⟩
      rw [List.length_cons] at e5
      have e4' : ∀ p ∈ R, p ∈ parts 47 s := fun x hx => e4 x (List.mem_cons_of_mem _ hx)
      have pm := e4 p List.mem_cons_self
      have ppl := pl p pm
      have al : ps.length < 16777216 := by omega
      by_cases hc : p = [42, 42]
      · subst hc
        simp only [w_if, w_opf, w_v, get_s, get_0, get_1, w_c, Option.some.injEq, exists_eq_left', o_eq, eqOf_s, Option.map_some, tst_bl, w_ex, w_mu, w_cons, w_nil, knd_l, muk_extend, true_and, w_fz]
        refine ⟨fun _ => ?_, fun h => by simp at h⟩
        refine w_comp (fun acc xs e => ∃ d w n, e = [some d, some (.str g), some (.str s), some (.lst true (strsD ps)), some (.str [42, 42]), w] ∧ Dr d ∧ All (GpD 3) acc ∧ acc.length + xs.length = n ∧ n ≤ 2) ?_
        simp
        refine (draw_ok h2 e2 (by omega) (by omega)).mono fun r io h => ?_
        obtain ⟨r', d', rfl, q1, q2, hd', rfl⟩ := h
        obtain ⟨j, ea, ja, jb⟩ := at_small (xs := [.int 0, .int 1, .int 1, .int 2]) (i := r') (n := 2) (by
          intro x hx
          simp only [List.mem_cons, List.not_mem_nil, or_false] at hx
          rcases hx with rfl | rfl | rfl | rfl <;> exact ⟨_, rfl, by decide, by decide⟩) q1 (by simpa using q2)
        simp [ea]
        refine ⟨_, rng1_ok (by omega) (by omega), ?_, ⟨hd', All.nil, by rw [rangeUp_len]; omega⟩, ?_, ?_⟩
        · rw [rangeUp_len]; omega
        · intro acc x r s d1 w hs hd1 ha hl1
          subst hs
          simp [wipe]
          refine (part_ok2 hd1 hg).mono fun r io h => ?_
          obtain ⟨d2, m, hd2, rfl⟩ := h
          simp
          exact ⟨hd2, ha.snoc m, by omega⟩
        · intro ys s2 d1 w hs hd1 ha hl1
          subst hs
          obtain ⟨qs, rfl, hq⟩ := gp_list ha
          have ql : qs.length ≤ 2 := by simpa using hl1
          have tl : ps.length + qs.length ≤ 16777216 := by omega
          simp [restore, strsD_own, tl, frz_strs]
          refine ⟨d1, ps ++ qs, R, _, _, by rw [strsD_app], rfl, hd1, fun p hp => ?_, e4', by rw [List.length_append]; omega⟩
          rcases List.mem_append.mp hp with z | z
          · exact e3 p z
          · exact Gp_mono (hq p z) (by omega)
      · simp [hc, al]
        refine (filled_ok3 (k := k) e2 hg (p := p) (fun c hx => (parts47_mem p pm c hx).2) (by omega)).mono fun r io h => ?_
        obtain ⟨d2, ⟨q, rfl, hq⟩, hd2, rfl⟩ := h
        simp [al]
        refine ⟨d2, ps ++ [q], R, _, _, by rw [strsD_app]; rfl, rfl, hd2, fun p hp => ?_, e4', by rw [List.length_append]; simp; omega⟩
        rcases List.mem_append.mp hp with z | z
        · exact e3 p z
        · rw [List.mem_singleton.mp z]; exact Gp_mono hq (by omega)
  · obtain ⟨d, ps, R, w4, w5, rfl, e1, e2, e3, e4, e5⟩ := he
    have dp := strsD_dep ps
    have en := eqOf_nil (o := true) (p := true) (xs := strsD ps) (by omega)
    cases ps with
    | nil =>
      simp [en]
      simp [strsD]
      refine (part_ok2 (k := k) e2 hg).mono fun r io h => ?_
      obtain ⟨d2, ⟨q, rfl, hq⟩, hd2, rfl⟩ := h
      simp
      exact ⟨GT_mono (GT_part hq) (by omega), hd2⟩
    | cons p ps =>
      obtain ⟨t, e, ht⟩ := join_gt (o := true) (m := 2002) (by simp) e3 (by omega) (by decide)
      simp [en]
      simp [strsD] at e ⊢
      exact ⟨_, e, t, rfl, ht, e2⟩
end
end Z

set_option Elab.async false
set_option linter.all false
set_option maxRecDepth 100000
/-! k11: the law's own places. -/
namespace Z
theorem PV_uniq {a b : D} {S : Pl → Prop} (h1 : PV a S) (h2 : PV b S) : a = b := by
  obtain ⟨F, rfl, f1, f2⟩ := h1
  obtain ⟨G, rfl, g1, g2⟩ := h2
  rw [srt_eq f1.2 g1.2 fun q => (f2 q).trans (g2 q).symm]
def insP (F : List Pl) (q : Pl) : List Pl := if q ∈ F then F else F ++ [q]
theorem insP_mem {F : List Pl} {q r : Pl} : r ∈ insP F q ↔ r ∈ F ∨ r = q := by
  unfold insP
  by_cases h : q ∈ F
  · rw [if_pos h]; exact ⟨.inl, fun z => z.elim id fun e => e ▸ h⟩
  · rw [if_neg h]; simp
theorem insP_nd {F : List Pl} {q : Pl} (h : F.Nodup) : (insP F q).Nodup := by
  unfold insP
  by_cases m : q ∈ F
  · rw [if_pos m]; exact h
  · rw [if_neg m]
    exact List.nodup_append.mpr ⟨h, by simp, fun x hx y hy => by rw [List.mem_singleton.mp hy]; exact fun e => m (e ▸ hx)⟩
theorem fd_rep {q : Pl} : ∀ {F : List Pl}, drep (fd F) (plD q) (.bl true) = fd F
  | [] => rfl
  | r :: F => by
    show (if (plD r).peq (plD q) then (plD r, D.bl true) :: fd F else (plD r, D.bl true) :: drep (fd F) (plD q) (.bl true)) = _
    rw [fd_rep]
    split <;> rfl
theorem fd_ins (F : List Pl) (q : Pl) : dput (fd F) (plD q) (.bl true) = fd (insP F q) := by
  unfold insP
  by_cases h : q ∈ F
  · rw [if_pos h]
    unfold dput
    rw [fd_get, if_pos h]
    exact fd_rep
  · rw [if_neg h, fd_put h]
/-- what dict makes of pairs -/
def prs (I : List Pl) : List D := I.map fun q => .tup [plD q, .bl true]
theorem prs_pairs : ∀ I : List Pl, pairsOf (prs I) = some (fd I)
  | [] => rfl
  | q :: I => by
    show (pairsOf (prs I)).map _ = _
    rw [prs_pairs I]; rfl
theorem prs_own : ∀ I : List Pl, ownL (prs I) = false
  | [] => rfl
  | q :: I => by
    show (_ || ownL (prs I)) = false
    rw [prs_own I]; rfl
theorem fd_kAll : ∀ I : List Pl, kAll (fd I) = true
  | [] => rfl
  | q :: I => by
    show (!((plD q).kd == 0) && kOk (plD q).kd (fd (q :: I))) = true
    rw [pl_kd, fd_ok]; rfl
theorem fd_fold : ∀ (I F : List Pl), F.Nodup → ∃ G, (fd I).foldl (fun a p => dput a p.1 p.2) (fd F) = fd G ∧ G.Nodup ∧ (∀ q, q ∈ G ↔ q ∈ F ∨ q ∈ I) ∧ G.length ≤ F.length + I.length
  | [], F, h => ⟨F, rfl, h, by simp, by simp⟩
  | q :: I, F, h => by
    obtain ⟨G, e, nd, m, l⟩ := fd_fold I (insP F q) (insP_nd h)
    refine ⟨G, ?_, nd, fun r => ?_, ?_⟩
    · show (fd I).foldl _ (dput (fd F) (plD q) (.bl true)) = _
      rw [fd_ins]; exact e
    · rw [m, insP_mem, List.mem_cons, or_assoc]
    · have : (insP F q).length ≤ F.length + 1 := by unfold insP; split <;> simp
      simp only [List.length_cons]
      omega
theorem dct_prs {I : List Pl} (h : I.length ≤ SL) : ∃ G, dctOf (prs I) = some (.dct true (fd G)) ∧ G.Nodup ∧ (∀ q, q ∈ G ↔ q ∈ I) ∧ G.length ≤ I.length := by
  obtain ⟨G, e, nd, m, l⟩ := fd_fold I [] List.nodup_nil
  refine ⟨G, ?_, nd, by simpa using m, by simpa using l⟩
  unfold dctOf
  have e1 : (prs I).length ≤ SL := by unfold prs; rw [List.length_map]; exact h
  rw [prs_pairs, Option.bind_some, if_pos (by rw [prs_own, fd_kAll, decide_eq_true e1]; rfl)]
  exact congrArg (fun z => some (D.dct true z)) e
theorem Cl_VP {Ps : List (List Nat)} {I : Pl → Prop} (h : ∀ q, I q → VP Ps q) {q : Pl} (c : Cl Ps I q) : VP Ps q := by
  induction c with
  | base h1 => exact h _ h1
  | step _ hr ih => exact VP_bes ih hr
/-- found so far -/
structure SI (Ps : List (List Nat)) (I : List Pl) (F : List Pl) : Prop where
  nd : F.Nodup
  b : ∀ q ∈ I, q ∈ F
  c : ∀ q ∈ F, Cl Ps (· ∈ I) q
theorem SI.vp {Ps : List (List Nat)} {I F : List Pl} (h : SI Ps I F) (hv : ∀ q ∈ I, VP Ps q) : ∀ q ∈ F, VP Ps q := fun q hq => Cl_VP hv (h.c q hq)
theorem SI.put {Ps : List (List Nat)} {I F : List Pl} {q r : Pl} (h : SI Ps I F) (hq : q ∈ F) (hr : r ∈ bes Ps q) : SI Ps I (insP F r) :=
  ⟨insP_nd h.nd, fun x hx => insP_mem.mpr (.inl (h.b x hx)), fun x hx => (insP_mem.mp hx).elim (h.c x) fun e => by rw [e]; exact .step (h.c q hq) hr⟩
theorem len_unf {Ps : List (List Nat)} : ∀ (n : Nat) (F : List Pl), F.length = n → F.Nodup → (∀ q ∈ F, q ∈ allP Ps) → F.length + unf Ps F ≤ (allP Ps).length
  | 0, F, h, _, _ => by
    obtain rfl := List.eq_nil_of_length_eq_zero h
    have : unf Ps [] ≤ (allP Ps).length := List.length_filter_le ..
    simpa using this
  | n + 1, F, h, nd, ha => by
    rcases snoc_cases F with rfl | ⟨F, q, rfl⟩
    · simp at h
    · rw [List.length_append] at h
      simp at h
      obtain ⟨n1, _, n2⟩ := List.nodup_append.mp nd
      have ih := len_unf n F h n1 fun x hx => ha x (List.mem_append_left _ hx)
      have := unf_lt (F := F) (ha q (List.mem_append_right _ (List.mem_singleton.mpr rfl))) fun z => n2 q z q (List.mem_singleton.mpr rfl) rfl
      rw [List.length_append]
      simp
      omega
theorem SI.len {Ps : List (List Nat)} {I F : List Pl} (ok : PsOk Ps) (h : SI Ps I F) (hv : ∀ q ∈ I, VP Ps q) : F.length + unf Ps F ≤ 1001000 := by
  have := len_unf (Ps := Ps) _ F rfl h.nd fun q hq => VP_all ok (h.vp hv q hq)
  have := all_len ok
  omega
theorem SI.done {Ps : List (List Nat)} {I F : List Pl} (h : SI Ps I F) (hc : ∀ q ∈ F, ∀ r ∈ bes Ps q, r ∈ F) : ∀ q, q ∈ F ↔ Cl Ps (· ∈ I) q := fun q =>
  ⟨h.c q, Cl_sub (fun q hq => h.b q hq) (fun q r hq hr => hc q hq r hr) q⟩
end Z

set_option Elab.async false
set_option linter.all false
set_option maxRecDepth 100000
/-! k11: the law's spread. -/
namespace Z
theorem prs_frz : ∀ I : List Pl, frzL (prs I) = prs I
  | [] => rfl
  | q :: I => by
    show D.tup [(plD q).frz, .bl true] :: frzL (prs I) = _
    rw [prs_frz I]; rfl
def gPr (x : D) : Option D := some (.tup [x, .bl true])
theorem gPr_l (I : List Pl) : (pls I).filterMap gPr = prs I := by
  unfold pls prs
  rw [List.filterMap_map]
  exact fm_some (fun q => D.tup [plD q, .bl true]) _
/-- one look at a place: what is put in -/
def insB (Ps : List (List Nat)) (F : List Pl) (q : Pl) : List Pl := (bes Ps q).foldl insP F
section
variable {P : Nat → Option Fn} {k : Nat} {Ps : List (List Nat)} {I : List Pl}
/-- the head of the outer loop -/
def I196 (o o2 : Bool) (Ps : List (List Nat)) (I : List Pl) (n : Nat) (e : Env) : Prop := ∃ F m w4 w5 w6, e = [some (.lst o (strsD Ps)), some (.lst o2 (pls I)), some (.dct true (fd F)), some (.int m), w4, w5, w6] ∧ SI Ps I F ∧ m ≤ F.length ∧ (m = F.length → ∀ q ∈ F, ∀ r ∈ bes Ps q, r ∈ F) ∧ unf Ps F + (if m < F.length then 1 else 0) ≤ n
/-- inside -/
def J196 (o o2 : Bool) (Ps : List (List Nat)) (I F0 : List Pl) (xs : List D) (e : Env) : Prop := ∃ R E w4 w5 w6, xs = pls R ∧ (∀ q ∈ R, q ∈ F0) ∧ e = [some (.lst o (strsD Ps)), some (.lst o2 (pls I)), some (.dct true (fd (F0 ++ E))), some (.int F0.length), w4, w5, w6] ∧ SI Ps I (F0 ++ E) ∧ (∀ q ∈ F0, q ∈ R ∨ ∀ r ∈ bes Ps q, r ∈ F0 ++ E) ∧ (E ≠ [] → unf Ps (F0 ++ E) < unf Ps F0)
theorem J_put {F0 E : List Pl} {q r : Pl} (ok : PsOk Ps) (hv : ∀ q ∈ I, VP Ps q) (si : SI Ps I (F0 ++ E)) (hq : q ∈ F0) (hr : r ∈ bes Ps q) (hE : E ≠ [] → unf Ps (F0 ++ E) < unf Ps F0) :
    ∃ E', insP (F0 ++ E) r = F0 ++ E' ∧ (∀ x ∈ F0 ++ E, x ∈ F0 ++ E') ∧ r ∈ F0 ++ E' ∧ SI Ps I (F0 ++ E') ∧ (E' ≠ [] → unf Ps (F0 ++ E') < unf Ps F0) := by
  by_cases h : r ∈ F0 ++ E
  · exact ⟨E, by unfold insP; rw [if_pos h], fun _ h => h, h, si, hE⟩
  · have e : insP (F0 ++ E) r = F0 ++ (E ++ [r]) := by unfold insP; rw [if_neg h, List.append_assoc]
    have s2 := si.put (List.mem_append_left _ hq) hr
    rw [e] at s2
    refine ⟨E ++ [r], e, fun x hx => ?_, by simp, s2, fun _ => ?_⟩
    · rw [← List.append_assoc]; exact List.mem_append_left _ hx
    · have := unf_lt (F := F0 ++ E) (VP_all ok (s2.vp hv r (by simp))) h
      rw [List.append_assoc] at this
      by_cases c : E = []
      · subst c; simpa using this
      · have := hE c; omega
theorem spread_ok [Has P 196 f196] (ok : PsOk Ps) (hv : ∀ q ∈ I, VP Ps q) (hl : I.length ≤ 1001000) {o o2 : Bool} :
    (run P (k + 1) 196 [.lst o (strsD Ps), .lst o2 (pls I)]).Ok fun r io => PV r (Cl Ps (· ∈ I)) ∧ io = [none, none] := by
  have hsl : SL = 16777216 := rfl
  refine cok_run (fn := ⟨[false, false], 7, b196⟩) (has P 196 f196) rfl ?_
  simp only [b196]
  obtain ⟨G, eG, nd, mG, lG⟩ := dct_prs (I := I) (by omega)
  refine w_cut (fun e => ∃ w6, e = [some (.lst o (strsD Ps)), some (.lst o2 (pls I)), some (.dct true (fd G)), none, none, none, w6]) ?_ fun e he => ?_
  · simp
    refine w_compF gPr (fun e => ∃ w6, e = [some (.lst o (strsD Ps)), some (.lst o2 (pls I)), none, none, none, none, w6]) ?_
    simp [pls_own, gPr_l, prs_frz, eG]
    refine ⟨by omega, fun x hx => ?_⟩
    obtain ⟨q, _, rfl⟩ := List.mem_map.mp hx
    rfl
  obtain ⟨w6, rfl⟩ := he
  refine w_cut (fun e => e = [some (.lst o (strsD Ps)), some (.lst o2 (pls I)), some (.dct true (fd G)), some (.int (-1)), none, none, w6]) ?_ fun e he => ?_
  · simp
  subst he
  have si0 : SI Ps I G := ⟨nd, fun q h => (mG q).mpr h, fun q h => .base ((mG q).mp h)⟩
  refine w_cut (fun e => ∃ F w3 w4 w5 w6, e = [some (.lst o (strsD Ps)), some (.lst o2 (pls I)), some (.dct true (fd F)), w3, w4, w5, w6] ∧ SI Ps I F ∧ ∀ q ∈ F, ∀ r ∈ bes Ps q, r ∈ F) ?_ fun e he => ?_
  · have u0 : unf Ps G ≤ 1001000 := by have := si0.len ok hv; omega
    refine w_wh (I196 o o2 Ps I) (unf Ps G + 1) (by unfold W; omega) ⟨G, -1, none, none, w6, rfl, si0, by omega, fun e => by omega, by split <;> omega⟩ ?_
    intro n s h
    obtain ⟨F, m, w4, w5, w6, rfl, si, ml, mc, nm⟩ := h
    have fl := si.len ok hv
    simp
    refine ⟨fun hm => ?_, fun hm => ⟨F, rfl, si, fun a b h c d h2 => mc (by omega) (a, b) h (c, d) h2⟩⟩
    rw [if_pos hm] at nm
    refine ⟨n - 1, by omega, ?_⟩
    refine w_for (J196 o o2 Ps I F) ?_ (fun x r e he => ?_) fun e he => ?_
    · simp [fd_keys, pls_own]
      exact ⟨F, [], w4, w5, w6, rfl, fun _ h => h, by simp, by simpa using si, fun q h => .inl h, fun z => absurd rfl z⟩
    · obtain ⟨R, E, w4, w5, w6, eR, hR, rfl, sj, hc, hE⟩ := he
      cases R with
      | nil => cases eR
      | cons q R =>
      obtain ⟨i, a⟩ := q
      obtain ⟨rfl, rfl⟩ := pls_uncons eR
      have hq : (i, a) ∈ F := hR _ List.mem_cons_self
      have hR2 : ∀ x ∈ R, x ∈ F := fun x h => hR x (List.mem_cons_of_mem _ h)
      obtain ⟨p, hp, hpa⟩ := si.vp hv _ hq
      simp only at hp hpa
      have ej := sj.len ok hv
      have el : (F ++ E).length < 16777216 := by omega
      have el' : F.length + E.length < 16777216 := by rw [List.length_append] at el; exact el
      refine ⟨_, rfl, ?_⟩
      have nop : bes Ps (i, a) = [] → J196 o o2 Ps I F (pls R) [some (.lst o (strsD Ps)), some (.lst o2 (pls I)), some (.dct true (fd (F ++ E))), some (.int F.length), some (.int i), some (.int a), w6] := fun hb =>
        ⟨R, E, _, _, _, rfl, hR2, rfl, sj, fun x hx => (hc x hx).elim (fun z => (List.mem_cons.mp z).elim (fun e => .inr (by rw [e, hb]; exact fun _ h => nomatch h)) .inl) .inr, hE⟩
      have yes : ∀ r, bes Ps (i, a) = [r] → J196 o o2 Ps I F (pls R) [some (.lst o (strsD Ps)), some (.lst o2 (pls I)), some (.dct true (fd (insP (F ++ E) r))), some (.int F.length), some (.int i), some (.int a), w6] := fun r hb => by
        obtain ⟨E', e, sub, hr, s2, hE2⟩ := J_put ok hv sj hq (r := r) (by rw [hb]; exact List.mem_cons_self) hE
        rw [e]
        refine ⟨R, E', _, _, _, rfl, hR2, rfl, s2, fun x hx => ?_, hE2⟩
        rcases hc x hx with z | z
        · rcases List.mem_cons.mp z with z | z
          · refine .inr ?_
            rw [z, hb]
            intro y hy
            rw [List.mem_singleton.mp hy]; exact hr
          · exact .inl z
        · exact .inr fun y hy => sub y (z y hy)
      by_cases e : p = [42, 42]
      · subst e
        have eb : bes Ps (i, a) = if a = 0 ∧ i + 1 < Ps.length then [(i + 1, 0)] else [] := by
          unfold bes
          simp only [hp, if_true]
        simp [strsD_at hp]
        by_cases ha : a = 0
        · subst ha
          have pe : D.tup [.int ((i : Int) + 1), .int 0] = plD (i + 1, 0) := rfl
          by_cases hi : i + 1 < Ps.length
          · have hi2 : (i : Int) < (Ps.length : Int) - 1 := by omega
            have hi3 : ¬ ((Ps.length : Int) - 1 ≤ (i : Int)) := by omega
            simp [pe, hi2, hi3, fd_kin, fd_ins, el']
            exact yes _ (by rw [eb, if_pos ⟨rfl, hi⟩])
          · have hi2 : ¬ ((i : Int) < (Ps.length : Int) - 1) := by omega
            have hi3 : (Ps.length : Int) - 1 ≤ (i : Int) := by omega
            simp [hi2, hi3]
            exact nop (by rw [eb, if_neg fun z => hi z.2])
        · simp [ha]
          exact nop (by rw [eb, if_neg fun z => ha z.1])
      · have eb : bes Ps (i, a) = if p[a]? = some 42 then [(i, a + 1)] else [] := by
          unfold bes
          simp only [hp, if_neg e]
        have pl : p.length ≤ 16777216 := by have := ok.s p (List.mem_of_getElem? hp); omega
        simp [strsD_at hp, e, pl, at_nat]
        by_cases ap : a < p.length
        · obtain ⟨c, ec⟩ : ∃ c, p[a]? = some c := ⟨p[a], List.getElem?_eq_getElem ap⟩
          have ec2 := (List.getElem?_eq_some_iff.mp ec).2
          have ap2 : ¬ p.length ≤ a := by omega
          have pe : D.tup [.int (i : Int), .int ((a : Int) + 1)] = plD (i, a + 1) := rfl
          by_cases c42 : c = 42
          · subst c42
            simp [ap, ap2, ec2, pe, fd_kin, fd_ins, el']
            exact yes _ (by rw [eb, if_pos ec])
          · simp [ap, ap2, ec2, c42]
            exact nop (by rw [eb, ec, if_neg fun z => c42 (Option.some.inj z)])
        · simp [ap]
          exact fun _ => nop (by rw [eb, if_neg fun z => ap (List.getElem?_eq_some_iff.mp z).1])
    · obtain ⟨R, E, w4, w5, w6, eR, hR, rfl, sj, hc, hE⟩ := he
      cases R with
      | cons q R => cases eR
      | nil =>
        refine ⟨F ++ E, F.length, w4, w5, w6, rfl, sj, by rw [List.length_append]; omega, fun e => ?_, ?_⟩
        · have : E = [] := by
            rw [List.length_append] at e
            exact List.eq_nil_of_length_eq_zero (by omega)
          subst this
          rw [List.append_nil] at hc ⊢
          exact fun q hq => (hc q hq).resolve_left fun z => nomatch z
        · by_cases c : E = []
          · subst c
            rw [List.append_nil, if_neg (by omega)]
            omega
          · have := hE c
            split <;> omega
  · obtain ⟨F, w3, w4, w5, w6, rfl, si, hc⟩ := he
    have fl := si.len ok hv
    obtain ⟨H, e, el, eg, es⟩ := srt_of si.nd
    simp [fd_keys, pls_srt (F := F) (by omega), e, pls_own]
    exact ⟨H, rfl, ⟨by omega, es⟩, fun q => (eg q).trans (si.done hc q)⟩
end
end Z

set_option Elab.async false
set_option linter.all false
set_option maxRecDepth 100000
/-! k11: where the law comes. -/
namespace Z
def nby (Ps : List (List Nat)) (c : Nat) (q : Pl) : List Pl := if c = 47 then nst Ps q else nxs Ps c q
theorem nby_len (Ps : List (List Nat)) (c : Nat) (q : Pl) : (nby Ps c q).length ≤ 1 := by
  unfold nby
  split
  · exact nst_len Ps q
  · exact nxs_len Ps c q
theorem VP_nby {Ps : List (List Nat)} {c : Nat} {q r : Pl} (h : VP Ps q) (hr : r ∈ nby Ps c q) : VP Ps r := by
  unfold nby at hr
  split at hr
  · exact VP_nst h hr
  · exact VP_nxs h hr
theorem in_pair (c m : Nat) : inOf (.str [m]) (.tup [.str [c], .str [63]]) = some (decide (c = m ∨ 63 = m)) := by
  have e : inOf (.str [m]) (.tup [.str [c], .str [63]]) = some (([c] == [m]) || (([63] == [m]) || false)) := rfl
  rw [e]
  congr 1
  rw [Bool.eq_iff_iff]
  simp
section
variable {P : Nat → Option Fn} {k : Nat} {s : List Nat}
def I198 (s : List Nat) (c : Nat) (G : List Pl) (xs : List D) (e : Env) : Prop := ∃ A R w5 w6 w7, e = [some (.str s), some (.tup (pls G)), some (.str [c]), some (.lst true (strsD (parts 47 s))), some (.lst true (pls A)), w5, w6, w7] ∧ xs = pls R ∧ (∀ q ∈ R, VP (parts 47 s) q) ∧ A ++ R.flatMap (nby (parts 47 s) c) = G.flatMap (nby (parts 47 s) c) ∧ A.length + R.length ≤ G.length
set_option maxHeartbeats 4000000 in
theorem lby_ok [Has P 196 f196] [Has P 198 f198] (hs : s.length ≤ 999) {c : Nat} (hc : c ≠ 42) {G : List Pl} (hv : ∀ q ∈ G, VP (parts 47 s) q) (hl : G.length ≤ 1001000) :
    (run P (k + 2) 198 [.str s, .tup (pls G), .str [c]]).Ok fun r io => PV r (Cl (parts 47 s) fun q => ∃ p, p ∈ G ∧ q ∈ nby (parts 47 s) c p) ∧ io = [none, none, none] := by
  refine cok_run (fn := ⟨[false, false, false], 8, b198⟩) (has P 198 f198) rfl ?_
  have hs2 : s.length + 2 ≤ 16777216 := by omega
  simp only [b198]
  refine w_cut (fun e => e = [some (.str s), some (.tup (pls G)), some (.str [c]), some (.lst true (strsD (parts 47 s))), none, none, none, none]) ?_ fun e he => ?_
  · simp [hs2, strsD_fold]
  subst he
  refine w_cut (fun e => e = [some (.str s), some (.tup (pls G)), some (.str [c]), some (.lst true (strsD (parts 47 s))), some (.lst true (pls [])), none, none, none]) ?_ fun e he => ?_
  · simp [pls_nil]
  subst he
  refine w_cut (I198 s c G []) ?_ fun e he => ?_
  · refine w_for (I198 s c G) ?_ (fun x r e he => ?_) fun e he => he
    · simp [pls_own]
      exact ⟨[], G, _, _, _, rfl, rfl, hv, rfl, by simp⟩
    · obtain ⟨A, R, w5, w6, w7, rfl, e1, e2, e3, e4⟩ := he
      cases R with
      | nil => cases e1
      | cons q R =>
        obtain ⟨rfl, rfl⟩ := pls_uncons e1
        refine ⟨_, assign_pl, ?_⟩
        obtain ⟨p, hp, ha⟩ := e2 q List.mem_cons_self
        have ok := parts_ok hs
        have on := ok.n
        have pl := ok.s p (List.mem_of_getElem? hp)
        have pl2 : p.length ≤ 16777216 := by omega
        have hv2 : ∀ q ∈ R, VP (parts 47 s) q := fun q h => e2 q (List.mem_cons_of_mem _ h)
        rw [List.flatMap_cons, ← List.append_assoc] at e3
        have nl := nby_len (parts 47 s) c q
        rw [List.length_cons] at e4
        have done : ∀ w5 w6 w7 B, B = A ++ nby (parts 47 s) c q → I198 s c G (pls R) [some (.str s), some (.tup (pls G)), some (.str [c]), some (.lst true (strsD (parts 47 s))), some (.lst true (pls B)), w5, w6, w7] := fun w5 w6 w7 B hB => by
          subst hB
          exact ⟨_, R, _, _, _, rfl, rfl, hv2, e3, by rw [List.length_append]; omega⟩
        have al : A.length < 16777216 := by omega
        obtain ⟨i, a⟩ := q
        simp only at hp ha
        by_cases h47 : c = 47
        · subst h47
          have en : nby (parts 47 s) 47 (i, a) = if p = [42, 42] then (if a = 1 then [(i, 0)] else []) else if a = p.length ∧ i + 1 < (parts 47 s).length then [(i + 1, 0)] else [] := by
            unfold nby nst
            simp only [hp, if_true]
          rw [en] at done
          simp [strsD_at hp, pl2]
          by_cases ep : p = [42, 42]
          · subst ep
            by_cases h1 : a = 1
            · subst h1
              simp at done
              simp [al]
              rw [show pls A ++ [D.tup [.int i, .int (b2i false)]] = pls (A ++ [(i, 0)]) from (pls_app A [(i, 0)]).symm]
              exact done _ _ _
            · simp [h1] at done
              have h2 : ¬ (a : Int) = 1 := by omega
              simp [h1, h2]
              exact done _ _ _
          · simp only [if_neg ep] at done
            by_cases h1 : a = p.length
            · subst h1
              by_cases h2 : i + 1 < (parts 47 s).length
              · have h3 : (i : Int) < ((parts 47 s).length : Int) - 1 := by omega
                have h4 : ¬ ((parts 47 s).length : Int) - 1 ≤ (i : Int) := by omega
                simp [h2] at done
                simp [ep, h3, h4, al]
                rw [show pls A ++ [D.tup [.int (i + 1), .int 0]] = pls (A ++ [(i + 1, 0)]) from (pls_app A [(i + 1, 0)]).symm]
                exact done _ _ _
              · have h3 : ¬ (i : Int) < ((parts 47 s).length : Int) - 1 := by omega
                have h4 : ((parts 47 s).length : Int) - 1 ≤ (i : Int) := by omega
                simp [h2] at done
                simp [ep, h3, h4]
                exact done _ _ _
            · have h2 : ¬ (a : Int) = p.length := by omega
              simp [h1] at done
              simp [ep, h1, h2]
              exact done _ _ _
        · have en : nby (parts 47 s) c (i, a) = if p = [42, 42] then [(i, 1)] else if p[a]? = some c ∨ p[a]? = some 63 then [(i, a + 1)] else if p[a]? = some 42 then [(i, a)] else [] := by
            unfold nby nxs
            simp only [hp, if_neg h47]
          rw [en] at done
          simp [strsD_at hp, pl2, h47]
          by_cases ep : p = [42, 42]
          · subst ep
            simp at done
            simp [al]
            rw [show pls A ++ [D.tup [.int i, .int (b2i true)]] = pls (A ++ [(i, 1)]) from (pls_app A [(i, 1)]).symm]
            exact done _ _ _
          · simp only [if_neg ep] at done
            by_cases ap : a < p.length
            case neg =>
              have hx : p[a]? = none := List.getElem?_eq_none (by omega)
              simp [hx] at done
              have ap2 : p.length ≤ a := by omega
              simp [ep, ap, ap2]
              exact done _ _ _
            obtain ⟨m, ec⟩ : ∃ m, p[a]? = some m := ⟨p[a], List.getElem?_eq_getElem ap⟩
            have ec2 := (List.getElem?_eq_some_iff.mp ec).2
            have ap2 : ¬ p.length ≤ a := by omega
            rw [ec] at done
            have hc' : ¬ 42 = c := fun z => hc z.symm
            by_cases h1 : c = m
            · subst h1
              have im : inOf (.str [c]) (.tup [.str [c], .str [63]]) = some true := by rw [in_pair]; simp
              simp at done
              simp [ep, ap, ap2, at_nat, ec2, im, al, hc]
              rw [show pls A ++ [D.tup [.int i, .int (a + 1)]] = pls (A ++ [(i, a + 1)]) from (pls_app A [(i, a + 1)]).symm]
              exact done _ _ _
            · by_cases h2 : 63 = m
              · subst h2
                have im : inOf (.str [63]) (.tup [.str [c], .str [63]]) = some true := by rw [in_pair]; simp
                simp at done
                simp [ep, ap, ap2, at_nat, ec2, im, al]
                rw [show pls A ++ [D.tup [.int i, .int (a + 1)]] = pls (A ++ [(i, a + 1)]) from (pls_app A [(i, a + 1)]).symm]
                exact done _ _ _
              · have h1' : ¬ m = c := fun z => h1 z.symm
                have h2' : ¬ m = 63 := fun z => h2 z.symm
                have im : inOf (.str [m]) (.tup [.str [c], .str [63]]) = some false := by rw [in_pair]; simp [h1, h2]
                simp [h1', h2'] at done
                by_cases h3 : m = 42
                · subst h3
                  simp at done
                  simp [ep, ap, ap2, at_nat, ec2, im, al, h1]
                  rw [show pls A ++ [D.tup [.int i, .int a]] = pls (A ++ [(i, a)]) from (pls_app A [(i, a)]).symm]
                  exact done _ _ _
                · simp [h3] at done
                  simp [ep, ap, ap2, at_nat, ec2, im, h1, h2, h3]
                  exact done _ _ _
  · obtain ⟨A, R, w5, w6, w7, rfl, e1, e2, e3, e4⟩ := he
    obtain rfl : R = [] := by
      cases R with
      | nil => rfl
      | cons q R => cases e1
    simp only [List.flatMap_nil, List.append_nil] at e3
    simp [frz_strs, frz_pls]
    refine (spread_ok (P := P) (k := k) (I := A) (parts_ok hs) (fun q h => ?_) (by simp at e4; omega)).mono fun r io h => ?_
    · rw [e3, List.mem_flatMap] at h
      obtain ⟨p, hp, hq⟩ := h
      exact VP_nby (hv p hp) hq
    · obtain ⟨⟨B, rfl, h1, h2⟩, rfl⟩ := h
      refine ⟨B, rfl, h1, fun q => (h2 q).trans (Cl_congr (fun q => ?_) q)⟩
      rw [e3, List.mem_flatMap]
      first | exact ⟨fun ⟨p, a, b⟩ => ⟨p.1, p.2, a, b⟩, fun ⟨a, b, h1, h2⟩ => ⟨(a, b), h1, h2⟩⟩ | exact Iff.rfl
end
end Z

set_option Elab.async false
set_option linter.all false
set_option maxRecDepth 100000
/-! k11: ends, beginnings, any places. -/
namespace Z
def gNS (x : D) : Option D := match x with
  | .str p => if p = [42, 42] then none else some (.str p)
  | _ => none
theorem gNS_l : ∀ ps : List (List Nat), (strsD ps).filterMap gNS = strsD (ps.filter fun p => decide (p ≠ [42, 42]))
  | [] => rfl
  | p :: ps => by
    show ((D.str p) :: strsD ps).filterMap gNS = _
    rw [List.filterMap_cons, gNS_l ps]
    by_cases h : p = [42, 42]
    · simp [gNS, h]
    · simp [gNS, h, strsD]
theorem strsD_dep2 : ∀ ps : List (List Nat), depL (strsD ps) = 0
  | [] => rfl
  | p :: ps => by
    show max (D.str p).dep (depL (strsD ps)) = 0
    rw [strsD_dep2 ps]; rfl
theorem flt_all (ps : List (List Nat)) : (strsD (ps.filter fun p => decide (p ≠ [42, 42]))).isEmpty = ps.all fun p => p == [42, 42] := by
  induction ps with
  | nil => rfl
  | cons p ps ih =>
    by_cases h : p = [42, 42]
    · simpa [h, List.filter_cons] using ih
    · simp [h, List.filter_cons, strsD]
def inS37 : S := (.ite (.op .eq false (.comp (.fr 5) (.nm 5) (.of (.slc false true false (.v 2) (.op .add false (.v 3) (.c (.int 1))) (.c .non))) (.op .ne false (.v 5) (.c (.str [42, 42]))) [5]) (.lst .nil)) (.ret (.c (.bl true))) .skip)
section
variable {P : Nat → Option Fn} {k : Nat} {s : List Nat}
def I37 (s : List Nat) (G : List Pl) (xs : List D) (e : Env) : Prop := ∃ R w3 w4 w5, e = [some (.str s), some (.tup (pls G)), some (.lst true (strsD (parts 47 s))), w3, w4, w5] ∧ xs = pls R ∧ (∀ q ∈ R, VP (parts 47 s) q) ∧ G.any (ends (parts 47 s)) = R.any (ends (parts 47 s))
set_option maxHeartbeats 2000000 in
theorem lends_ok [Has P 37 f37] (hs : s.length ≤ 999) {G : List Pl} (hv : ∀ q ∈ G, VP (parts 47 s) q) : (run P (k + 1) 37 [.str s, .tup (pls G)]).Ok fun r io => r = .bl (G.any (ends (parts 47 s))) ∧ io = [none, none] := by
  refine cok_run (fn := ⟨[false, false], 6, b37⟩) (has P 37 f37) rfl ?_
  have hs2 : s.length + 2 ≤ 16777216 := by omega
  simp only [b37]
  refine w_cut (fun e => e = [some (.str s), some (.tup (pls G)), some (.lst true (strsD (parts 47 s))), none, none, none]) ?_ fun e he => ?_
  · simp [hs2, strsD_fold]
  subst he
  refine w_cut (I37 s G []) ?_ fun e he => ?_
  · refine w_for (I37 s G) ?_ (fun x r e he => ?_) fun e he => he
    · simp [pls_own]
      exact ⟨G, _, _, _, rfl, rfl, hv, rfl⟩
    · obtain ⟨R, w3, w4, w5, rfl, e1, e2, e3⟩ := he
      cases R with
      | nil => cases e1
      | cons q R =>
        obtain ⟨rfl, rfl⟩ := pls_uncons e1
        refine ⟨_, assign_pl, ?_⟩
        obtain ⟨p, hp, ha⟩ := e2 q List.mem_cons_self
        have ok := parts_ok hs
        have on := ok.n
        have pl := ok.s p (List.mem_of_getElem? hp)
        have pl2 : p.length ≤ 16777216 := by omega
        have hv2 : ∀ q ∈ R, VP (parts 47 s) q := fun q h => e2 q (List.mem_cons_of_mem _ h)
        rw [List.any_cons] at e3
        obtain ⟨i, a⟩ := q
        simp only at hp ha
        have en : ends (parts 47 s) (i, a) = ((if p = [42, 42] then a == 1 else a == p.length) && ((parts 47 s).drop (i + 1)).all fun p => p == [42, 42]) := by
          unfold ends
          simp only [hp]
        rw [en] at e3
        have inner : (exec (run P k) inS37 [some (.str s), some (.tup (pls G)), some (.lst true (strsD (parts 47 s))), some (.int i), some (.int a), w5]).Ok
            (fun e => ∃ w5, e = [some (.str s), some (.tup (pls G)), some (.lst true (strsD (parts 47 s))), some (.int i), some (.int a), w5] ∧ ((parts 47 s).drop (i + 1)).all (fun p => p == [42, 42]) = false) (fun d _ => d = .bl true ∧ ((parts 47 s).drop (i + 1)).all (fun p => p == [42, 42]) = true) (fun _ => False) fun _ => False := by
          unfold inS37
          simp only [w_if, w_opf]
          refine w_compF gNS (fun e => ∃ w5, e = [some (.str s), some (.tup (pls G)), some (.lst true (strsD (parts 47 s))), some (.int i), some (.int a), w5]) ?_
          have ec : ((i : Int) + 1) = ((i + 1 : Nat) : Int) := by omega
          simp only [w_of, w_slcf, w_v, get_s, get_0, get_1, w_opf, w_c, Option.some.injEq, exists_eq_left', o_addi, own_lst, strsD_own, slice3_l, endOf_t, endOf_f, Option.bind_some, ec, cut_from, strsD_drop, it_l, Bool.true_or, Bool.false_eq_true, if_false]
          have dl : ((parts 47 s).drop (i + 1)).length ≤ 1000 := by rw [List.length_drop]; omega
          refine ⟨trivial, by rw [strsD_len]; unfold SL; omega, ⟨_, rfl⟩, fun x hx e he => ?_, fun e he => ?_⟩
          · obtain ⟨w, rfl⟩ := he
            obtain ⟨p, hp, rfl⟩ := List.mem_map.mp hx
            refine ⟨_, rfl, ?_⟩
            by_cases h : p = [42, 42] <;> simp [gNS, h]
          · obtain ⟨w, rfl⟩ := he
            rw [gNS_l]
            have eo : eqOf (.lst true (strsD (((parts 47 s).drop (i + 1)).filter fun p => decide (p ≠ [42, 42])))) (.lst true []) = some (((parts 47 s).drop (i + 1)).all fun p => p == [42, 42]) := by
              rw [eqOf_nil (by rw [strsD_dep2]; omega), flt_all]
            generalize strsD (((parts 47 s).drop (i + 1)).filter fun p => decide (p ≠ [42, 42])) = X at eo ⊢
            generalize ((parts 47 s).drop (i + 1)).all (fun p => p == [42, 42]) = b at eo ⊢
            cases b <;> simp [restore, eo]
        have yes : (if p = [42, 42] then a == 1 else a == p.length) = true → (exec (run P k) inS37 [some (.str s), some (.tup (pls G)), some (.lst true (strsD (parts 47 s))), some (.int i), some (.int a), w5]).Ok (I37 s G (pls R)) (fun d s_1 => d = .bl (G.any (ends (parts 47 s))) ∧ mask [false, false] 0 s_1 = [none, none]) (I37 s G []) (I37 s G (pls R)) := fun hd => by
          rw [hd, Bool.true_and] at e3
          refine inner.mono (fun e h => ?_) (fun d e h => ?_) (fun _ h => h.elim) fun _ h => h.elim
          · obtain ⟨w5, rfl, hb⟩ := h
            rw [hb, Bool.false_or] at e3
            exact ⟨R, _, _, _, rfl, rfl, hv2, e3⟩
          · rw [h.2, Bool.true_or] at e3
            exact ⟨by rw [h.1, e3], rfl⟩
        have no : (if p = [42, 42] then a == 1 else a == p.length) = false → I37 s G (pls R) [some (.str s), some (.tup (pls G)), some (.lst true (strsD (parts 47 s))), some (.int i), some (.int a), w5] := fun hd => by
          rw [hd, Bool.false_and, Bool.false_or] at e3
          exact ⟨R, _, _, _, rfl, rfl, hv2, e3⟩
        change (exec (run P k) (.ite _ inS37 .skip) [some (.str s), some (.tup (pls G)), some (.lst true (strsD (parts 47 s))), some (.int i), some (.int a), w5]).Ok _ _ _ _
        simp only [w_if, w_opf, w_v, w_ite, w_c, w_un, get_s, get_0, get_1, Option.some.injEq, exists_eq_left']
        by_cases ep : p = [42, 42]
        · subst ep
          by_cases h1 : a = 1
          · subst h1
            simp [strsD_at hp]
            simpa using yes rfl
          · have h2 : ¬ (a : Int) = 1 := by omega
            simp [strsD_at hp, h1, h2]
            exact no (by simp [h1])
        · by_cases h1 : a = p.length
          · subst h1
            simp [strsD_at hp, ep, pl2]
            simpa using yes (by simp [ep])
          · have h2 : ¬ (a : Int) = p.length := by omega
            simp [strsD_at hp, ep, pl2, h1, h2]
            exact no (by simp [ep, h1])
  · obtain ⟨R, w3, w4, w5, rfl, e1, e2, e3⟩ := he
    obtain rfl : R = [] := by
      cases R with
      | nil => rfl
      | cons q R => cases e1
    rw [e3]
    simp
end
end Z

set_option Elab.async false
set_option linter.all false
set_option maxRecDepth 100000
/-! k11: beginnings, any places. -/
namespace Z
theorem PV_frz2 {d : D} {S : Pl → Prop} (h : PV d S) : d.frz = d := by
  obtain ⟨G, rfl, _, _⟩ := h
  show D.tup (frzL (pls G)) = _
  rw [frz_pls]
section
variable {P : Nat → Option Fn} {k : Nat} {s : List Nat}
theorem start_ok [Has P 196 f196] [Has P 197 f197] (hs : s.length ≤ 999) : (run P (k + 2) 197 [.tup [.str s]]).Ok fun r io => ∃ d, r = .tup [.int 0, d] ∧ PV d (SP (parts 47 s) [] []) ∧ io = [none] := by
  refine cok_run (fn := ⟨[false], 2, b197⟩) (has P 197 f197) rfl ?_
  have hs2 : s.length + 2 ≤ 16777216 := by omega
  have hp : 0 < (parts 47 s).length := List.length_pos_iff.mpr (parts47_ne s)
  simp only [b197, w_ret, w_opf, w_tup, w_cons, w_nil, w_c, w_un, w_fz]
  refine w_comp (fun acc xs e => ∃ w, e = [some (.tup [.str s]), w] ∧ ((acc = [] ∧ xs = [.str s]) ∨ (∃ d, acc = [d] ∧ xs = [] ∧ PV d (SP (parts 47 s) [] [])))) ?_
  simp
  refine ⟨fun acc x r h1 h2 h3 => ?_, fun ys d hy hd => ?_⟩
  · subst h1 h2 h3
    have e0 : [D.tup [.int 0, .int 0]] = pls [(0, 0)] := rfl
    simp [hs2]
    rw [strsD_fold, e0]
    refine (spread_ok (P := P) (k := k) (I := [(0, 0)]) (parts_ok hs) (fun q h => ?_) (by simp)).mono fun r io h => ?_
    · obtain rfl : q = (0, 0) := by simpa using h
      exact ⟨_, List.getElem?_eq_getElem hp, Nat.zero_le _⟩
    · obtain ⟨h1, rfl⟩ := h
      refine ⟨by simp, PV_imp h1 fun q => Iff.trans (Cl_congr (fun q => ?_) q) (start_iff q)⟩
      simp [hp]
  · subst hy
    simp [PV_frz2 hd]
    exact hd
/-- what is found by draws -/
def I39 (s : List Nat) (xs : List D) (e : Env) : Prop := ∃ d F w3 w4 w5, e = [some d, some (.str s), some (.dct true (fd F)), w3, w4, w5] ∧ Dr d ∧ F.Nodup ∧ (∀ q ∈ F, VP (parts 47 s) q) ∧ F.length + xs.length ≤ 4
theorem some_ok [Has P 2 f2] [Has P 39 f39] {d : D} (hd : Dr d) (hs : s.length ≤ 999) : (run P (k + 2) 39 [d, .str s]).Ok fun r io => ∃ G d', r = .tup (pls G) ∧ (∀ q ∈ G, VP (parts 47 s) q) ∧ G.length ≤ 4 ∧ Dr d' ∧ io = [some d', none] := by
  have hs2 : s.length + 2 ≤ 16777216 := by omega
  have hp : 0 < (parts 47 s).length := List.length_pos_iff.mpr (parts47_ne s)
  refine cok_run (fn := ⟨[true, false], 6, b39⟩) (has P 39 f39) rfl ?_
  simp only [b39]
  refine w_cut (fun e => e = [some d, some (.str s), some (.dct true (fd [])), none, none, none]) ?_ fun e he => ?_
  · simp [fd]
  subst he
  refine w_cut (I39 s []) ?_ fun e he => ?_
  · refine w_for (I39 s) ?_ (fun x r e he => ?_) fun e he => he
    · simp
      refine (draw_ok (P := P) (f := 2) h2 (k := k) hd (m := 4) (by omega) (by omega)).mono fun r io h => ?_
      obtain ⟨r', d', rfl, q1, q2, hd', rfl⟩ := h
      simp
      refine ⟨_, rng1_ok (by omega) (by omega), d', [], none, none, none, rfl, hd', List.nodup_nil, (fun _ h => nomatch h), by rw [rangeUp_len]; simp; omega⟩
    · obtain ⟨d1, F, w3, w4, w5, rfl, hd1, nd, hv, hl⟩ := he
      rw [List.length_cons] at hl
      have ok := parts_ok hs
      have on := ok.n
      refine ⟨_, rfl, ?_⟩
      simp [hs2, strsD_fold]
      refine (draw_ok (P := P) (f := 2) h2 (k := k) hd1 (m := ((parts 47 s).length : Int)) (by omega) (by omega)).mono fun r1 io h => ?_
      obtain ⟨i', d2, rfl, q1, q2, hd2, rfl⟩ := h
      obtain ⟨i, rfl⟩ : ∃ n : Nat, i' = n := ⟨i'.toNat, by omega⟩
      obtain ⟨p, hpp⟩ : ∃ p, (parts 47 s)[i]? = some p := ⟨(parts 47 s)[i], List.getElem?_eq_getElem (by omega)⟩
      have pl := ok.s p (List.mem_of_getElem? hpp)
      have pl2 : p.length ≤ 16777216 := by omega
      simp [strsD_at hpp, pl2]
      by_cases ep : p = [42, 42]
      · subst ep
        simp
        refine (draw_ok (P := P) (f := 2) h2 (k := k) hd2 (m := 2) (by omega) (by omega)).mono fun r io h => ?_
        obtain ⟨a', d3, rfl, q3, q4, hd3, rfl⟩ := h
        obtain ⟨a, rfl⟩ : ∃ n : Nat, a' = n := ⟨a'.toNat, by omega⟩
        have pe : D.tup [.int (i : Int), .int (a : Int)] = plD (i, a) := rfl
        have fl : F.length < 16777216 := by omega
        simp [pe, fd_kin, fd_ins, fl]
        refine ⟨d3, insP F (i, a), x, some (.lst true (strsD (parts 47 s))), some (.int i), rfl, hd3, insP_nd nd, fun q hq => ?_, ?_⟩
        · rcases insP_mem.mp hq with z | z
          · exact hv q z
          · rw [z]; exact ⟨_, hpp, by simp; omega⟩
        · have : (insP F (i, a)).length ≤ F.length + 1 := by unfold insP; split <;> simp
          omega
      · simp [ep]
        refine (draw_ok (P := P) (f := 2) h2 (k := k) hd2 (m := (p.length : Int) + 1) (by omega) (by omega)).mono fun r io h => ?_
        obtain ⟨a', d3, rfl, q3, q4, hd3, rfl⟩ := h
        obtain ⟨a, rfl⟩ : ∃ n : Nat, a' = n := ⟨a'.toNat, by omega⟩
        have pe : D.tup [.int (i : Int), .int (a : Int)] = plD (i, a) := rfl
        have fl : F.length < 16777216 := by omega
        simp [pe, fd_kin, fd_ins, fl]
        refine ⟨d3, insP F (i, a), x, some (.lst true (strsD (parts 47 s))), some (.int i), rfl, hd3, insP_nd nd, fun q hq => ?_, ?_⟩
        · rcases insP_mem.mp hq with z | z
          · exact hv q z
          · rw [z]; exact ⟨_, hpp, by simp; omega⟩
        · have : (insP F (i, a)).length ≤ F.length + 1 := by unfold insP; split <;> simp
          omega
  · obtain ⟨d1, F, w3, w4, w5, rfl, hd1, nd, hv, hl⟩ := he
    obtain ⟨G, e, el, eg, es⟩ := srt_of nd
    have fl : F.length ≤ 4 := by simpa using hl
    simp [fd_keys, pls_srt (F := F) (by unfold SL; omega), e, pls_own]
    exact ⟨G, rfl, fun a b h => hv (a, b) ((eg (a, b)).mp h), by omega, hd1⟩
end
end Z

set_option Elab.async false
set_option linter.all false
set_option maxRecDepth 100000
/-! k11: the law. -/
namespace Z
theorem cut_to2 {α : Type} (s : List α) (a : Nat) : cut s none (some (a : Int)) = s.take a := by
  unfold cut
  have s1 : sIx s.length s.length (some (a : Int)) = min (a : Int).toNat s.length := by
    show (if (a : Int) < 0 then ((a : Int) + (s.length : Int)).toNat else min (a : Int).toNat s.length) = _
    rw [if_neg (by omega)]
  have s2 : sIx s.length 0 none = 0 := rfl
  rw [s1, s2, Int.toNat_natCast, List.drop_zero, Nat.sub_zero]
  by_cases h : a ≤ s.length
  · rw [Nat.min_eq_left h]
  · rw [Nat.min_eq_right (by omega), List.take_length, List.take_of_length_le (by omega)]
theorem plD_peq (q : Pl) : (plD q).peq (plD q) = true := by rw [pl_peq]; simp
theorem pls_peq : ∀ G : List Pl, peqL (pls G) (pls G) = true
  | [] => rfl
  | q :: G => by
    show ((plD q).peq (plD q) && peqL (pls G) (pls G)) = true
    rw [plD_peq, pls_peq G]; rfl
theorem eq_pls (G : List Pl) : eqOf (.tup (pls G)) (.tup (pls G)) = some true := by
  have d := pls_dep G
  have e : (D.tup (pls G)).dep = depL (pls G) + 1 := rfl
  unfold eqOf
  rw [if_pos (by rw [e]; omega)]
  exact congrArg some (pls_peq G)
/-- places that are some, as a value -/
def PG (Ps : List (List Nat)) (G : List Pl) : Prop := G.length ≤ 1001000 ∧ ∀ q ∈ G, VP Ps q
theorem PG_of {Ps : List (List Nat)} {d : D} {I : Pl → Prop} (h : PV d (Cl Ps I)) (hI : ∀ q, I q → VP Ps q) : ∃ G, d = .tup (pls G) ∧ PG Ps G := by
  obtain ⟨G, rfl, l, m⟩ := h
  exact ⟨G, rfl, l.1, fun q hq => Cl_VP hI ((m q).mp hq)⟩
theorem PG_of2 {Ps : List (List Nat)} {d : D} (h : PV d (SP Ps [] [])) : ∃ G, d = .tup (pls G) ∧ PG Ps G := by
  obtain ⟨G, rfl, l, m⟩ := h
  exact ⟨G, rfl, l.1, fun q hq => SP_VP ((m q).mp hq)⟩
section
variable {P : Nat → Option Fn} {k : Nat} {s : List Nat} {G : List Pl}
def TO (s : List Nat) (c : Nat) (G : List Pl) : Pl → Prop := Cl (parts 47 s) fun q => ∃ p, p ∈ G ∧ q ∈ nby (parts 47 s) c p
theorem TO_PG {d : D} {c : Nat} (hg : PG (parts 47 s) G) (h : PV d (TO s c G)) : ∃ G, d = .tup (pls G) ∧ PG (parts 47 s) G :=
  PG_of h fun q hq => by
    obtain ⟨p, hp, hr⟩ := hq
    exact VP_nby (hg.2 p hp) hr
theorem c24 [Has P 21 f21] [Has P 22 f22] [Has P 24 f24] (hs : s.length ≤ 999) (hg : PG (parts 47 s) G) {c : Nat} (hc : c ≠ 47) : (run P (k + 3) 24 [.str s, .tup (pls G), .str [c]]).Ok fun r io => PV r (TO s c G) ∧ io = [none, none, none] := by
  have e : nby (parts 47 s) c = nxs (parts 47 s) c := funext fun q => if_neg hc
  unfold TO
  rw [e]
  exact by_sign_ok hs hg.2 hg.1
theorem c25 [Has P 21 f21] [Has P 22 f22] [Has P 25 f25] (hs : s.length ≤ 999) (hg : PG (parts 47 s) G) : (run P (k + 3) 25 [.str s, .tup (pls G)]).Ok fun r io => PV r (TO s 47 G) ∧ io = [none, none] := by
  have e : nby (parts 47 s) 47 = nst (parts 47 s) := funext fun q => if_pos rfl
  unfold TO
  rw [e]
  exact by_stroke_ok hs hg.2 hg.1
theorem c198 [Has P 196 f196] [Has P 198 f198] (hs : s.length ≤ 999) (hg : PG (parts 47 s) G) {c : Nat} (hc : c ≠ 42) : (run P (k + 2) 198 [.str s, .tup (pls G), .str [c]]).Ok fun r io => PV r (TO s c G) ∧ io = [none, none, none] :=
  lby_ok hs hc hg.2 hg.1
end
theorem chrs_cons {x : D} {r : List D} {R : List Nat} (h : x :: r = chrs R) : ∃ c R', R = c :: R' ∧ x = .str [c] ∧ r = chrs R' := by
  cases R with
  | nil => cases h
  | cons c R =>
    have : x :: r = D.str [c] :: chrs R := h
    exact ⟨c, R, rfl, (List.cons.inj this).1, (List.cons.inj this).2⟩
def J199 (ns : List Int) (xs : List D) (s : Env) : Prop := ∃ w1 w2 w3 w4 w5 w6 w7 w8 w9, s = [some (.lst false (ns.map .int)), w1, w2, w3, w4, w5, w6, w7, w8, w9] ∧ ∀ x ∈ xs, ∃ j, x = .int j ∧ 0 ≤ j
def L199 (ns : List Int) (w1 : Option D) (d : D) (g s : List Nat) (xs : List D) (e : Env) : Prop := ∃ w5 w8 w9 G R, e = [some (.lst false (ns.map .int)), w1, some d, some (.str g), some (.str s), w5, some (.tup (pls G)), some (.tup (pls G)), w8, w9] ∧ xs = chrs R ∧ (∀ c ∈ R, c ≠ 42) ∧ PG (parts 47 s) G
theorem own_chrs : ∀ t : List Nat, ownL (chrs t) = false
  | [] => rfl
  | c :: t => by
    show (_ || ownL (chrs t)) = false
    rw [own_chrs t]; rfl
theorem src_ok {ns : List Int} {C : Nat → List D → CR} {w1 w6 w8 w9 : Option D} {d : D} {g s t : List Nat} {G : List Pl} (ht : ∀ c ∈ t, c ≠ 42) (tls : t.length ≤ SL) (hG : PG (parts 47 s) G) (hw : w6 = some (.tup (pls G))) :
    (evS C (.of (.slc false false true (.v 5) (.c .non) (.c (.int 40)))) [some (.lst false (ns.map .int)), w1, some d, some (.str g), some (.str s), some (.str t), w6, w6, w8, w9]).Ok fun xs e => L199 ns w1 d g s xs e := by
  subst hw
  have c40 : cut t none (some 40) = t.take 40 := cut_to2 t 40
  have tl2 : (t.take 40).length ≤ SL := Nat.le_trans (List.length_take_le ..) (by unfold SL; omega)
  simp only [w_of, w_slcf, w_v, w_c, get_s, get_0, get_1, Option.some.injEq, exists_eq_left']
  refine ⟨_, (slice3_s).trans (by rw [endOf_f, endOf_t, Option.bind_some, Option.bind_some, if_pos tls, c40]), chrs (t.take 40), ?_, own_chrs _, ?_⟩
  · exact it_s.trans (if_pos tl2)
  · exact ⟨_, _, _, G, t.take 40, rfl, rfl, fun c hc => ht c (List.mem_of_mem_take hc), hG⟩
def body199 : S := (.seq (.ite (.or (.op .ne false (.v 6) (.v 7)) (.or (.un .not (.un .isTup (.v 6))) (.un .not (.call 10 [none, none] (.cons (.call 26 [none, none] (.cons (.fr 4) (.cons (.fr 7) .nil))) (.cons (.call 37 [none, none] (.cons (.fr 4) (.cons (.fr 7) .nil))) .nil))))))
        (.ret (.c (.bl false)))
        .skip)
        (.seq (.asg 6 (.ite (.op .eq false (.v 8) (.c (.str [47]))) (.call 25 [none, none] (.cons (.fr 4) (.cons (.fr 7) .nil))) (.call 24 [none, none, none] (.cons (.fr 4) (.cons (.fr 7) (.cons (.fr 8) .nil))))))
        (.asg 7 (.call 198 [none, none, none] (.cons (.fr 4) (.cons (.fr 7) (.cons (.fr 8) .nil)))))))
def loop199 : S := .for (.nm 8) (.of (.slc false false true (.v 5) (.c .non) (.c (.int 40)))) body199
def tail199 : S := (.seq (.asg 9 (.call 39 [some 2, none] (.cons (.v 2) (.cons (.fr 4) .nil))))
      (.seq (.asg 8 (.call 3 [some 2, none] (.cons (.v 2) (.cons (.fr 3) .nil))))
      (.seq (.ite (.op .ne false (.call 24 [none, none, none] (.cons (.fr 4) (.cons (.fr 9) (.cons (.fr 8) .nil)))) (.call 198 [none, none, none] (.cons (.fr 4) (.cons (.fr 9) (.cons (.fr 8) .nil)))))
      (.ret (.c (.bl false)))
      .skip)
      (.seq (.ite (.or (.op .ne false (.call 25 [none, none] (.cons (.fr 4) (.cons (.fr 9) .nil))) (.call 198 [none, none, none] (.cons (.fr 4) (.cons (.fr 9) (.cons (.c (.str [47])) .nil))))) (.op .ne false (.v 6) (.v 7)))
      (.ret (.c (.bl false)))
      .skip)
      (.ite (.un .not (.call 10 [none, none] (.cons (.call 26 [none, none] (.cons (.fr 4) (.cons (.fr 9) .nil))) (.cons (.call 37 [none, none] (.cons (.fr 4) (.cons (.fr 9) .nil))) .nil))))
      (.ret (.c (.bl false)))
      .skip)))))
set_option maxHeartbeats 4000000 in
theorem body_ok {ns : List Int} {j : Int} {d : D} {g s R : List Nat} {w5 w9 : Option D} {G : List Pl} {c : Nat} {rt : D → Env → Prop} {bk : Env → Prop} (s9 : s.length ≤ 999) (hG : PG (parts 47 s) G) (hc : c ≠ 42) (hR2 : ∀ x ∈ R, x ≠ 42) :
    (exec (run prg 4) body199 [some (.lst false (ns.map .int)), some (.int j), some d, some (.str g), some (.str s), w5, some (.tup (pls G)), some (.tup (pls G)), some (.str [c]), w9]).Ok (L199 ns (some (.int j)) d g s (chrs R)) rt bk (L199 ns (some (.int j)) d g s (chrs R)) := by
  unfold body199
  refine w_cut (fun e => e = [some (.lst false (ns.map .int)), some (.int j), some d, some (.str g), some (.str s), w5, some (.tup (pls G)), some (.tup (pls G)), some (.str [c]), w9]) ?_ fun e he => ?_
  · simp [eq_pls, D.isTupB, frz_pls]
    refine (has_end_ok (P := prg) (k := 3) s9 hG.2).mono fun r io h => ?_
    obtain ⟨rfl, rfl⟩ := h
    simp [frz_pls]
    refine (lends_ok (P := prg) (k := 3) s9 hG.2).mono fun r io h => ?_
    obtain ⟨rfl, rfl⟩ := h
    simp
    refine (truly_ok (P := prg) (k := 3)).mono fun r io h => ?_
    obtain ⟨rfl, rfl⟩ := h
    simp
  subst he
  refine w_cut (fun e => ∃ pd, e = [some (.lst false (ns.map .int)), some (.int j), some d, some (.str g), some (.str s), w5, some pd, some (.tup (pls G)), some (.str [c]), w9] ∧ PV pd (TO s c G)) ?_ fun e he => ?_
  · by_cases h47 : c = 47
    · subst h47
      simp [frz_pls]
      refine (c25 (P := prg) (k := 1) s9 hG).mono fun r io h => ?_
      obtain ⟨h1, rfl⟩ := h
      simpa using h1
    · simp [frz_pls, h47]
      refine (c24 (P := prg) (k := 1) s9 hG h47).mono fun r io h => ?_
      obtain ⟨h1, rfl⟩ := h
      simpa using h1
  obtain ⟨pd, rfl, hpd⟩ := he
  simp [frz_pls]
  refine (c198 (P := prg) (k := 2) s9 hG hc).mono fun r io h => ?_
  obtain ⟨h1, rfl⟩ := h
  rw [PV_uniq h1 hpd]
  obtain ⟨G2, rfl, hG2⟩ := TO_PG hG hpd
  simp
  exact ⟨_, _, _, G2, R, rfl, rfl, hR2, hG2⟩

theorem loop_ok {ns : List Int} {j : Int} {d : D} {g s t : List Nat} {w8 w9 : Option D} {G : List Pl} {rt : D → Env → Prop} {bk ct : Env → Prop} (s9 : s.length ≤ 999) (hG : PG (parts 47 s) G) (ht : ∀ c ∈ t, c ≠ 42) (tls : t.length ≤ SL) :
    (exec (run prg 4) loop199 [some (.lst false (ns.map .int)), some (.int j), some d, some (.str g), some (.str s), some (.str t), some (.tup (pls G)), some (.tup (pls G)), w8, w9]).Ok (L199 ns (some (.int j)) d g s []) rt bk ct := by
  unfold loop199
  refine w_for (L199 ns (some (.int j)) d g s) ?_ (fun x r' e h => ?_) fun e h => h
  · exact src_ok ht tls hG rfl
  · obtain ⟨w5, w8, w9, G, R, rfl, e1, hR, hG⟩ := h
    obtain ⟨c, R, rfl, rfl, rfl⟩ := chrs_cons e1
    exact ⟨_, rfl, body_ok s9 hG (hR c List.mem_cons_self) fun x h => hR x (List.mem_cons_of_mem _ h)⟩
end Z

set_option Elab.async false
set_option linter.all false
set_option maxRecDepth 100000
namespace Z
set_option maxHeartbeats 4000000 in
theorem tail_ok {ns : List Int} {j : Int} {d : D} {g s : List Nat} {w5 w8 w9 : Option D} {G : List Pl} {rt : D → Env → Prop} {bk : Env → Prop} {r : List D} (hd : Dr d) (hg : Gs g) (s9 : s.length ≤ 999) (hr : ∀ x ∈ r, ∃ j, x = D.int j ∧ 0 ≤ j) :
    (exec (run prg 4) tail199 [some (.lst false (ns.map .int)), some (.int j), some d, some (.str g), some (.str s), w5, some (.tup (pls G)), some (.tup (pls G)), w8, w9]).Ok (J199 ns r) rt bk (J199 ns r) := by
  unfold tail199
  refine w_cut (fun e => ∃ d G9, e = [some (.lst false (ns.map .int)), some (.int j), some d, some (.str g), some (.str s), w5, some (.tup (pls G)), some (.tup (pls G)), w8, some (.tup (pls G9))] ∧ Dr d ∧ PG (parts 47 s) G9) ?_ fun e he => ?_
  · simp
    refine (some_ok (P := prg) (k := 2) hd s9).mono fun r io h => ?_
    obtain ⟨G9, d2, rfl, hv, hl, hd2, rfl⟩ := h
    simp
    exact ⟨d2, G9, ⟨rfl, rfl⟩, hd2, by omega, hv⟩
  obtain ⟨d, G9, rfl, hd, h9⟩ := he
  refine w_cut (fun e => ∃ d c, e = [some (.lst false (ns.map .int)), some (.int j), some d, some (.str g), some (.str s), w5, some (.tup (pls G)), some (.tup (pls G)), some (.str [c]), some (.tup (pls G9))] ∧ c ≠ 42 ∧ c ≠ 47) ?_ fun e he => ?_
  · simp
    refine (of_str (P := prg) (k := 2) hd hg.ne (by have := hg.le; omega)).mono fun r io h => ?_
    obtain ⟨d2, c, rfl, hc, hd2, rfl⟩ := h
    simp
    exact hg.ch c hc
  obtain ⟨d, c, rfl, hc, h47⟩ := he
  refine w_cut (fun e => e = [some (.lst false (ns.map .int)), some (.int j), some d, some (.str g), some (.str s), w5, some (.tup (pls G)), some (.tup (pls G)), some (.str [c]), some (.tup (pls G9))]) ?_ fun e he => ?_
  · simp [frz_pls]
    refine (c24 (P := prg) (k := 1) s9 h9 h47).mono fun r io h => ?_
    obtain ⟨h1, rfl⟩ := h
    simp [frz_pls]
    refine (c198 (P := prg) (k := 2) s9 h9 hc).mono fun r io h => ?_
    obtain ⟨h2, rfl⟩ := h
    rw [PV_uniq h2 h1]
    obtain ⟨G2, rfl, hG2⟩ := TO_PG h9 h1
    simp [eq_pls]
  subst he
  refine w_cut (fun e => e = [some (.lst false (ns.map .int)), some (.int j), some d, some (.str g), some (.str s), w5, some (.tup (pls G)), some (.tup (pls G)), some (.str [c]), some (.tup (pls G9))]) ?_ fun e he => ?_
  · simp [frz_pls]
    refine (c25 (P := prg) (k := 1) s9 h9).mono fun r io h => ?_
    obtain ⟨h1, rfl⟩ := h
    simp [frz_pls]
    refine (c198 (P := prg) (k := 2) s9 h9 (c := 47) (by omega)).mono fun r io h => ?_
    obtain ⟨h2, rfl⟩ := h
    rw [PV_uniq h2 h1]
    obtain ⟨G2, rfl, hG2⟩ := TO_PG h9 h1
    simp [eq_pls]
  subst he
  simp [frz_pls]
  refine (has_end_ok (P := prg) (k := 3) s9 h9.2).mono fun r io h => ?_
  obtain ⟨rfl, rfl⟩ := h
  simp [frz_pls]
  refine (lends_ok (P := prg) (k := 3) s9 h9.2).mono fun r io h => ?_
  obtain ⟨rfl, rfl⟩ := h
  simp
  refine (truly_ok (P := prg) (k := 3)).mono fun r io h => ?_
  obtain ⟨rfl, rfl⟩ := h
  simp
  exact ⟨_, _, _, _, _, _, _, _, _, rfl, hr⟩
end Z

set_option Elab.async false
set_option linter.all false
set_option maxRecDepth 100000
namespace Z
set_option maxHeartbeats 4000000 in
theorem law_ok {ns : List Int} (hn : ns.length ≤ 63) : (run prg 5 199 [.lst false (ns.map .int)]).Ok fun r io => r = .bl true := by
  refine cok_run (fn := ⟨[false], 10, b199⟩) (has prg 199 f199) rfl ?_
  simp only [b199]
  refine w_cut (J199 ns []) ?_ fun s h => by
    obtain ⟨w1, w2, w3, w4, w5, w6, w7, w8, w9, rfl, _⟩ := h
    simp
  refine w_for (J199 ns) ?_ (fun x r s h => ?_) fun s h => h
  · simp
    refine ⟨_, rng1_ok ?_ ?_, _, _, _, _, _, _, _, _, _, rfl, fun x hx => ?_⟩
    · split <;> omega
    · split <;> (try split) <;> omega
    · obtain ⟨j, e, h1, h2⟩ := rangeUp_mem _ _ x hx
      exact ⟨j, e, h1⟩
  · obtain ⟨w1, w2, w3, w4, w5, w6, w7, w8, w9, rfl, hx⟩ := h
    obtain ⟨j, rfl, hj⟩ := hx _ List.mem_cons_self
    have hr : ∀ x ∈ r, ∃ j, x = D.int j ∧ 0 ≤ j := fun x h => hx x (List.mem_cons_of_mem _ h)
    refine ⟨[some (.lst false (ns.map .int)), some (.int j), w2, w3, w4, w5, w6, w7, w8, w9], rfl, ?_⟩
    refine w_cut (fun e => ∃ d, e = [some (.lst false (ns.map .int)), some (.int j), some d, w3, w4, w5, w6, w7, w8, w9] ∧ Dr d) ?_ fun e he => ?_
    · simp [frz_ints]
      refine (draws_ok (k := 3) hj hn).mono fun r io h => ?_
      obtain ⟨hd, rfl⟩ := h
      simpa using hd
    obtain ⟨d, rfl, hd⟩ := he
    refine w_cut (fun e => ∃ d g, e = [some (.lst false (ns.map .int)), some (.int j), some d, some (.str g), w4, w5, w6, w7, w8, w9] ∧ Dr d ∧ Gs g) ?_ fun e he => ?_
    · simp
      refine (few_ok2 (k := 2) hd).mono fun r io h => ?_
      obtain ⟨g, d1, rfl, hg, hd1, rfl⟩ := h
      simp
      exact ⟨hd1, hg⟩
    obtain ⟨d, g, rfl, hd, hg⟩ := he
    refine w_cut (fun e => ∃ d s, e = [some (.lst false (ns.map .int)), some (.int j), some d, some (.str g), some (.str s), w5, w6, w7, w8, w9] ∧ Dr d ∧ s.length ≤ 45) ?_ fun e he => ?_
    · simp
      refine (pattern_ok (k := 0) (a := 5) (n := 6) hd hg.ne (by have := hg.le; omega) (by omega) (by omega) (by omega) (by omega)).mono fun r io h => ?_
      obtain ⟨d2, ⟨t, rfl, ht⟩, hd2, rfl⟩ := h
      simp
      exact ⟨hd2, by omega⟩
    obtain ⟨d, s, rfl, hd, hs⟩ := he
    refine w_cut (fun e => ∃ d t, e = [some (.lst false (ns.map .int)), some (.int j), some d, some (.str g), some (.str s), some (.str t), w6, w7, w8, w9] ∧ Dr d ∧ (∀ c ∈ t, c ≠ 42) ∧ t.length ≤ 7000000) ?_ fun e he => ?_
    · simp
      refine (path_ok2 (P := prg) (k := 0) hd hg).mono fun r1 io h => ?_
      obtain ⟨t1, d2, rfl, ht1, hd2, rfl⟩ := h
      simp
      refine (fitting_ok3 (P := prg) (k := 0) hd2 hg (by omega)).mono fun r1 io h => ?_
      obtain ⟨t2, d3, rfl, ht2, hd3, rfl⟩ := h
      simp
      refine (draw_ok (P := prg) (f := 2) h2 (k := 3) hd3 (m := 2) (by omega) (by omega)).mono fun r io h => ?_
      obtain ⟨r', d4, rfl, q1, q2, hd4, rfl⟩ := h
      obtain ⟨v, ev, mv⟩ := at_in (xs := [.str t1, .str t2]) q1 (by simpa using q2)
      simp [ev]
      simp only [List.mem_cons, List.not_mem_nil, or_false] at mv
      rcases mv with rfl | rfl
      · exact ⟨_, _, ⟨rfl, rfl⟩, hd4, ht1.g.st, by have := ht1.le; omega⟩
      · exact ⟨_, _, ⟨rfl, rfl⟩, hd4, ht2.g.st, by have := ht2.le; omega⟩
    obtain ⟨d, t, rfl, hd, ht, tl⟩ := he
    refine w_cut (fun e => ∃ pd, e = [some (.lst false (ns.map .int)), some (.int j), some d, some (.str g), some (.str s), some (.str t), some pd, w7, w8, w9] ∧ PV pd (SP (parts 47 s) [] [])) ?_ fun e he => ?_
    · simp
      refine (first_ok (P := prg) (k := 1) (by omega)).mono fun r io h => ?_
      obtain ⟨h1, rfl⟩ := h
      simpa using h1
    obtain ⟨pd, rfl, hpd⟩ := he
    refine w_cut (fun e => e = [some (.lst false (ns.map .int)), some (.int j), some d, some (.str g), some (.str s), some (.str t), some pd, some pd, w8, w9]) ?_ fun e he => ?_
    · simp
      refine (start_ok (P := prg) (k := 2) (by omega)).mono fun r io h => ?_
      obtain ⟨d2, rfl, h2, rfl⟩ := h
      rw [PV_uniq h2 hpd]
      simp
    subst he
    obtain ⟨G, rfl, hG⟩ := PG_of2 hpd
    have tls : t.length ≤ SL := by unfold SL; omega
    have c40 : cut t none (some 40) = t.take 40 := cut_to2 t 40
    have s9 : s.length ≤ 999 := by omega
    change (exec (run prg 4) (.seq loop199 tail199) _).Ok _ _ _ _
    refine w_cut (L199 ns (some (.int j)) d g s []) (loop_ok s9 hG ht tls) fun e he => ?_
    obtain ⟨w5, w8, w9, G, R, rfl, e1, hR, hG⟩ := he
    exact tail_ok hd hg s9 hr
theorem law_runs : ∀ ns : List Int, ns.length ≤ 63 → ∃ io, run (tabP tab) 5 199 [.lst false (ns.map .int)] = .ok (.bl true) io := fun ns hn => by
  have q := law_ok hn
  unfold prg at q
  cases e : run (tabP tab) 5 199 [.lst false (ns.map .int)] with
  | ok d io =>
    rw [e] at q
    cases q
    exact ⟨io, rfl⟩
  | exc x io => rw [e] at q; exact q.elim
  | bad => rw [e] at q; exact q.elim
end Z

set_option Elab.async false
set_option linter.all false
set_option maxRecDepth 100000
namespace Z
open PySem PySem.Spec PyProof.Rows L2
theorem all_mk {l : PySem.W.OpenLaw} {w : World} {K : PySem.W.Frag} {h : Heap} {mg : Str → Option Value} {fa f0 f1 f2 f3 f4 f5 f6 f7 f8 f9 f10 f11 f12 f13 f14 f15 f16 f17 f18 f19 f20 f21 f22 f23 : Addr} (X : K.In h) (G : h.Ns mainGlobals mg) (hfa : mg "law" = some (.ref fa))
    {oc0 kV0 dc0 pm0 cd0 ct0 : Value} {od0 an0 : Option Addr} {sl0 : Array (Option Value)}
    (a0 : PySem.W.nsIn K mainGlobals "closed" = some (some (.ref f0))) (l0 : K.lookup f0 = some ⟨oc0, od0, .func (PySem.W.fnOf "closed" "closed" (defArgs (topS 5)) (defBody (topS 5)) (defScope (topS 5)) .none kV0 dc0 pm0 an0 cd0 ct0), sl0⟩)
    (c0 : PySem.W.codeIn K cd0 "closed" = true) (k0 : PySem.W.keepIn K (.ref f0) = true)
    {oc1 kV1 dc1 pm1 cd1 ct1 : Value} {od1 an1 : Option Addr} {sl1 : Array (Option Value)}
    (a1 : PySem.W.nsIn K mainGlobals "beside" = some (some (.ref f1))) (l1 : K.lookup f1 = some ⟨oc1, od1, .func (PySem.W.fnOf "beside" "beside" (defArgs (topS 6)) (defBody (topS 6)) (defScope (topS 6)) .none kV1 dc1 pm1 an1 cd1 ct1), sl1⟩)
    (c1 : PySem.W.codeIn K cd1 "beside" = true) (k1 : PySem.W.keepIn K (.ref f1) = true)
    {oc2 kV2 dc2 pm2 cd2 ct2 : Value} {od2 an2 : Option Addr} {sl2 : Array (Option Value)}
    (a2 : PySem.W.nsIn K mainGlobals "first_places" = some (some (.ref f2))) (l2 : K.lookup f2 = some ⟨oc2, od2, .func (PySem.W.fnOf "first_places" "first_places" (defArgs (topS 7)) (defBody (topS 7)) (defScope (topS 7)) .none kV2 dc2 pm2 an2 cd2 ct2), sl2⟩)
    (c2 : PySem.W.codeIn K cd2 "first_places" = true) (k2 : PySem.W.keepIn K (.ref f2) = true)
    {oc3 kV3 dc3 pm3 cd3 ct3 : Value} {od3 an3 : Option Addr} {sl3 : Array (Option Value)}
    (a3 : PySem.W.nsIn K mainGlobals "by_sign" = some (some (.ref f3))) (l3 : K.lookup f3 = some ⟨oc3, od3, .func (PySem.W.fnOf "by_sign" "by_sign" (defArgs (topS 8)) (defBody (topS 8)) (defScope (topS 8)) .none kV3 dc3 pm3 an3 cd3 ct3), sl3⟩)
    (c3 : PySem.W.codeIn K cd3 "by_sign" = true) (k3 : PySem.W.keepIn K (.ref f3) = true)
    {oc4 kV4 dc4 pm4 cd4 ct4 : Value} {od4 an4 : Option Addr} {sl4 : Array (Option Value)}
    (a4 : PySem.W.nsIn K mainGlobals "by_stroke" = some (some (.ref f4))) (l4 : K.lookup f4 = some ⟨oc4, od4, .func (PySem.W.fnOf "by_stroke" "by_stroke" (defArgs (topS 9)) (defBody (topS 9)) (defScope (topS 9)) .none kV4 dc4 pm4 an4 cd4 ct4), sl4⟩)
    (c4 : PySem.W.codeIn K cd4 "by_stroke" = true) (k4 : PySem.W.keepIn K (.ref f4) = true)
    {oc5 kV5 dc5 pm5 cd5 ct5 : Value} {od5 an5 : Option Addr} {sl5 : Array (Option Value)}
    (a5 : PySem.W.nsIn K mainGlobals "has_end" = some (some (.ref f5))) (l5 : K.lookup f5 = some ⟨oc5, od5, .func (PySem.W.fnOf "has_end" "has_end" (defArgs (topS 10)) (defBody (topS 10)) (defScope (topS 10)) .none kV5 dc5 pm5 an5 cd5 ct5), sl5⟩)
    (c5 : PySem.W.codeIn K cd5 "has_end" = true) (k5 : PySem.W.keepIn K (.ref f5) = true)
    {oc6 kV6 dc6 pm6 cd6 ct6 : Value} {od6 an6 : Option Addr} {sl6 : Array (Option Value)}
    (a6 : PySem.W.nsIn K mainGlobals "_law_draw" = some (some (.ref f6))) (l6 : K.lookup f6 = some ⟨oc6, od6, .func (PySem.W.fnOf "_law_draw" "_law_draw" (defArgs (topS 12)) (defBody (topS 12)) (defScope (topS 12)) .none kV6 dc6 pm6 an6 cd6 ct6), sl6⟩)
    (c6 : PySem.W.codeIn K cd6 "_law_draw" = true) (k6 : PySem.W.keepIn K (.ref f6) = true)
    {oc7 kV7 dc7 pm7 cd7 ct7 : Value} {od7 an7 : Option Addr} {sl7 : Array (Option Value)}
    (a7 : PySem.W.nsIn K mainGlobals "_law_draws" = some (some (.ref f7))) (l7 : K.lookup f7 = some ⟨oc7, od7, .func (PySem.W.fnOf "_law_draws" "_law_draws" (defArgs (topS 13)) (defBody (topS 13)) (defScope (topS 13)) .none kV7 dc7 pm7 an7 cd7 ct7), sl7⟩)
    (c7 : PySem.W.codeIn K cd7 "_law_draws" = true) (k7 : PySem.W.keepIn K (.ref f7) = true)
    {oc8 kV8 dc8 pm8 cd8 ct8 : Value} {od8 an8 : Option Addr} {sl8 : Array (Option Value)}
    (a8 : PySem.W.nsIn K mainGlobals "_law_signs" = some (some (.ref f8))) (l8 : K.lookup f8 = some ⟨oc8, od8, .func (PySem.W.fnOf "_law_signs" "_law_signs" (defArgs (topS 14)) (defBody (topS 14)) (defScope (topS 14)) .none kV8 dc8 pm8 an8 cd8 ct8), sl8⟩)
    (c8 : PySem.W.codeIn K cd8 "_law_signs" = true) (k8 : PySem.W.keepIn K (.ref f8) = true)
    {oc9 kV9 dc9 pm9 cd9 ct9 : Value} {od9 an9 : Option Addr} {sl9 : Array (Option Value)}
    (a9 : PySem.W.nsIn K mainGlobals "_law_few_signs" = some (some (.ref f9))) (l9 : K.lookup f9 = some ⟨oc9, od9, .func (PySem.W.fnOf "_law_few_signs" "_law_few_signs" (defArgs (topS 15)) (defBody (topS 15)) (defScope (topS 15)) .none kV9 dc9 pm9 an9 cd9 ct9), sl9⟩)
    (c9 : PySem.W.codeIn K cd9 "_law_few_signs" = true) (k9 : PySem.W.keepIn K (.ref f9) = true)
    {oc10 kV10 dc10 pm10 cd10 ct10 : Value} {od10 an10 : Option Addr} {sl10 : Array (Option Value)}
    (a10 : PySem.W.nsIn K mainGlobals "_law_of" = some (some (.ref f10))) (l10 : K.lookup f10 = some ⟨oc10, od10, .func (PySem.W.fnOf "_law_of" "_law_of" (defArgs (topS 16)) (defBody (topS 16)) (defScope (topS 16)) .none kV10 dc10 pm10 an10 cd10 ct10), sl10⟩)
    (c10 : PySem.W.codeIn K cd10 "_law_of" = true) (k10 : PySem.W.keepIn K (.ref f10) = true)
    {oc11 kV11 dc11 pm11 cd11 ct11 : Value} {od11 an11 : Option Addr} {sl11 : Array (Option Value)}
    (a11 : PySem.W.nsIn K mainGlobals "_law_marks" = some (some (.ref f11))) (l11 : K.lookup f11 = some ⟨oc11, od11, .func (PySem.W.fnOf "_law_marks" "_law_marks" (defArgs (topS 17)) (defBody (topS 17)) (defScope (topS 17)) .none kV11 dc11 pm11 an11 cd11 ct11), sl11⟩)
    (c11 : PySem.W.codeIn K cd11 "_law_marks" = true) (k11 : PySem.W.keepIn K (.ref f11) = true)
    {oc12 kV12 dc12 pm12 cd12 ct12 : Value} {od12 an12 : Option Addr} {sl12 : Array (Option Value)}
    (a12 : PySem.W.nsIn K mainGlobals "_law_pattern" = some (some (.ref f12))) (l12 : K.lookup f12 = some ⟨oc12, od12, .func (PySem.W.fnOf "_law_pattern" "_law_pattern" (defArgs (topS 18)) (defBody (topS 18)) (defScope (topS 18)) .none kV12 dc12 pm12 an12 cd12 ct12), sl12⟩)
    (c12 : PySem.W.codeIn K cd12 "_law_pattern" = true) (k12 : PySem.W.keepIn K (.ref f12) = true)
    {oc13 kV13 dc13 pm13 cd13 ct13 : Value} {od13 an13 : Option Addr} {sl13 : Array (Option Value)}
    (a13 : PySem.W.nsIn K mainGlobals "_law_part" = some (some (.ref f13))) (l13 : K.lookup f13 = some ⟨oc13, od13, .func (PySem.W.fnOf "_law_part" "_law_part" (defArgs (topS 19)) (defBody (topS 19)) (defScope (topS 19)) .none kV13 dc13 pm13 an13 cd13 ct13), sl13⟩)
    (c13 : PySem.W.codeIn K cd13 "_law_part" = true) (k13 : PySem.W.keepIn K (.ref f13) = true)
    {oc14 kV14 dc14 pm14 cd14 ct14 : Value} {od14 an14 : Option Addr} {sl14 : Array (Option Value)}
    (a14 : PySem.W.nsIn K mainGlobals "_law_path" = some (some (.ref f14))) (l14 : K.lookup f14 = some ⟨oc14, od14, .func (PySem.W.fnOf "_law_path" "_law_path" (defArgs (topS 20)) (defBody (topS 20)) (defScope (topS 20)) .none kV14 dc14 pm14 an14 cd14 ct14), sl14⟩)
    (c14 : PySem.W.codeIn K cd14 "_law_path" = true) (k14 : PySem.W.keepIn K (.ref f14) = true)
    {oc15 kV15 dc15 pm15 cd15 ct15 : Value} {od15 an15 : Option Addr} {sl15 : Array (Option Value)}
    (a15 : PySem.W.nsIn K mainGlobals "_law_filled" = some (some (.ref f15))) (l15 : K.lookup f15 = some ⟨oc15, od15, .func (PySem.W.fnOf "_law_filled" "_law_filled" (defArgs (topS 21)) (defBody (topS 21)) (defScope (topS 21)) .none kV15 dc15 pm15 an15 cd15 ct15), sl15⟩)
    (c15 : PySem.W.codeIn K cd15 "_law_filled" = true) (k15 : PySem.W.keepIn K (.ref f15) = true)
    {oc16 kV16 dc16 pm16 cd16 ct16 : Value} {od16 an16 : Option Addr} {sl16 : Array (Option Value)}
    (a16 : PySem.W.nsIn K mainGlobals "_law_fitting" = some (some (.ref f16))) (l16 : K.lookup f16 = some ⟨oc16, od16, .func (PySem.W.fnOf "_law_fitting" "_law_fitting" (defArgs (topS 22)) (defBody (topS 22)) (defScope (topS 22)) .none kV16 dc16 pm16 an16 cd16 ct16), sl16⟩)
    (c16 : PySem.W.codeIn K cd16 "_law_fitting" = true) (k16 : PySem.W.keepIn K (.ref f16) = true)
    {oc17 kV17 dc17 pm17 cd17 ct17 : Value} {od17 an17 : Option Addr} {sl17 : Array (Option Value)}
    (a17 : PySem.W.nsIn K mainGlobals "_law_spread" = some (some (.ref f17))) (l17 : K.lookup f17 = some ⟨oc17, od17, .func (PySem.W.fnOf "_law_spread" "_law_spread" (defArgs (topS 23)) (defBody (topS 23)) (defScope (topS 23)) .none kV17 dc17 pm17 an17 cd17 ct17), sl17⟩)
    (c17 : PySem.W.codeIn K cd17 "_law_spread" = true) (k17 : PySem.W.keepIn K (.ref f17) = true)
    {oc18 kV18 dc18 pm18 cd18 ct18 : Value} {od18 an18 : Option Addr} {sl18 : Array (Option Value)}
    (a18 : PySem.W.nsIn K mainGlobals "_law_start" = some (some (.ref f18))) (l18 : K.lookup f18 = some ⟨oc18, od18, .func (PySem.W.fnOf "_law_start" "_law_start" (defArgs (topS 24)) (defBody (topS 24)) (defScope (topS 24)) .none kV18 dc18 pm18 an18 cd18 ct18), sl18⟩)
    (c18 : PySem.W.codeIn K cd18 "_law_start" = true) (k18 : PySem.W.keepIn K (.ref f18) = true)
    {oc19 kV19 dc19 pm19 cd19 ct19 : Value} {od19 an19 : Option Addr} {sl19 : Array (Option Value)}
    (a19 : PySem.W.nsIn K mainGlobals "_law_truly" = some (some (.ref f19))) (l19 : K.lookup f19 = some ⟨oc19, od19, .func (PySem.W.fnOf "_law_truly" "_law_truly" (defArgs (topS 25)) (defBody (topS 25)) (defScope (topS 25)) .none kV19 dc19 pm19 an19 cd19 ct19), sl19⟩)
    (c19 : PySem.W.codeIn K cd19 "_law_truly" = true) (k19 : PySem.W.keepIn K (.ref f19) = true)
    {oc20 kV20 dc20 pm20 cd20 ct20 : Value} {od20 an20 : Option Addr} {sl20 : Array (Option Value)}
    (a20 : PySem.W.nsIn K mainGlobals "_law_ends" = some (some (.ref f20))) (l20 : K.lookup f20 = some ⟨oc20, od20, .func (PySem.W.fnOf "_law_ends" "_law_ends" (defArgs (topS 26)) (defBody (topS 26)) (defScope (topS 26)) .none kV20 dc20 pm20 an20 cd20 ct20), sl20⟩)
    (c20 : PySem.W.codeIn K cd20 "_law_ends" = true) (k20 : PySem.W.keepIn K (.ref f20) = true)
    {oc21 kV21 dc21 pm21 cd21 ct21 : Value} {od21 an21 : Option Addr} {sl21 : Array (Option Value)}
    (a21 : PySem.W.nsIn K mainGlobals "_law_by" = some (some (.ref f21))) (l21 : K.lookup f21 = some ⟨oc21, od21, .func (PySem.W.fnOf "_law_by" "_law_by" (defArgs (topS 27)) (defBody (topS 27)) (defScope (topS 27)) .none kV21 dc21 pm21 an21 cd21 ct21), sl21⟩)
    (c21 : PySem.W.codeIn K cd21 "_law_by" = true) (k21 : PySem.W.keepIn K (.ref f21) = true)
    {oc22 kV22 dc22 pm22 cd22 ct22 : Value} {od22 an22 : Option Addr} {sl22 : Array (Option Value)}
    (a22 : PySem.W.nsIn K mainGlobals "_law_some_places" = some (some (.ref f22))) (l22 : K.lookup f22 = some ⟨oc22, od22, .func (PySem.W.fnOf "_law_some_places" "_law_some_places" (defArgs (topS 28)) (defBody (topS 28)) (defScope (topS 28)) .none kV22 dc22 pm22 an22 cd22 ct22), sl22⟩)
    (c22 : PySem.W.codeIn K cd22 "_law_some_places" = true) (k22 : PySem.W.keepIn K (.ref f22) = true)
    {oc23 kV23 dc23 pm23 cd23 ct23 : Value} {od23 an23 : Option Addr} {sl23 : Array (Option Value)}
    (a23 : PySem.W.nsIn K mainGlobals "law" = some (some (.ref f23))) (l23 : K.lookup f23 = some ⟨oc23, od23, .func (PySem.W.fnOf "law" "law" (defArgs (topS 29)) (defBody (topS 29)) (defScope (topS 29)) .none kV23 dc23 pm23 an23 cd23 ct23), sl23⟩)
    (c23 : PySem.W.codeIn K cd23 "law" = true) (k23 : PySem.W.keepIn K (.ref f23) = true)
    {s0 : Str} {t0 : _} (m0 : PySem.W.nsIn K mainGlobals "STROKE" = some (some (.str s0 t0))) (y0 : s0 = ⟨List.toArray [47]⟩)
    {s1 : Str} {t1 : _} (m1 : PySem.W.nsIn K mainGlobals "ANY_PARTS" = some (some (.str s1 t1))) (y1 : s1 = ⟨List.toArray [42, 42]⟩)
    {s2 : Str} {t2 : _} (m2 : PySem.W.nsIn K mainGlobals "ANY_SIGNS" = some (some (.str s2 t2))) (y2 : s2 = ⟨List.toArray [42]⟩)
    {s3 : Str} {t3 : _} (m3 : PySem.W.nsIn K mainGlobals "ONE_SIGN" = some (some (.str s3 t3))) (y3 : s3 = ⟨List.toArray [63]⟩)
    (z0 : PySem.W.nsIn K mainGlobals "len" = some none)
    (z1 : PySem.W.nsIn K mainGlobals "all" = some none)
    (z2 : PySem.W.nsIn K mainGlobals "any" = some none)
    (z3 : PySem.W.nsIn K mainGlobals "list" = some none)
    (z4 : PySem.W.nsIn K mainGlobals "tuple" = some none)
    (z5 : PySem.W.nsIn K mainGlobals "int" = some none)
    (z6 : PySem.W.nsIn K mainGlobals "min" = some none)
    (z7 : PySem.W.nsIn K mainGlobals "max" = some none)
    (z8 : PySem.W.nsIn K mainGlobals "isinstance" = some none)
    (z9 : PySem.W.nsIn K mainGlobals "range" = some none)
    (z10 : PySem.W.nsIn K mainGlobals "str" = some none)
    (z11 : PySem.W.nsIn K mainGlobals "bool" = some none)
    (z12 : PySem.W.nsIn K mainGlobals "sorted" = some none)
    (z13 : PySem.W.nsIn K mainGlobals "enumerate" = some none)
    (z14 : PySem.W.nsIn K mainGlobals "set" = some none)
    (z15 : PySem.W.nsIn K mainGlobals "dict" = some none)
    : ∃ fd : FuncData, (∀ (s : Shared) (v : Value), BindsTo s fd ⟨[v], []⟩ [("_law_script", v)]) ∧ ∀ base : Heap, K.In base → base.Ns mainGlobals mg → FnOk l.prog w K mg base CX0 5 fa fd ["_law_script"] (spLaw K 63) := by
  have e := hfa.symm.trans (PySem.W.mg_of X G a23)
  cases e
  have F0 := fun_mk (st := topS 5) l0 c0 k0
  have B0 := F0.binds (ps := ["parts", "places"]) fun _ _ _ _ _ _ us hl => match us, hl with | [_, _], _ => rfl
  have C0 := F0.kbs (ps := ["parts", "places"]) (fun p q h => by cases h; exact fun _ _ _ _ _ _ _ _ => rfl)
  have F1 := fun_mk (st := topS 6) l1 c1 k1
  have B1 := F1.binds (ps := ["parts", "place"]) fun _ _ _ _ _ _ us hl => match us, hl with | [_, _], _ => rfl
  have C1 := F1.kbs (ps := ["parts", "place"]) (fun p q h => by cases h; exact fun _ _ _ _ _ _ _ _ => rfl)
  have F2 := fun_mk (st := topS 7) l2 c2 k2
  have B2 := F2.binds (ps := ["pattern"]) fun _ _ _ _ _ _ us hl => match us, hl with | [_], _ => rfl
  have C2 := F2.kbs (ps := ["pattern"]) (fun p q h => by simp at h)
  have F3 := fun_mk (st := topS 8) l3 c3 k3
  have B3 := F3.binds (ps := ["pattern", "places", "sign"]) fun _ _ _ _ _ _ us hl => match us, hl with | [_, _, _], _ => rfl
  have C3 := F3.kbs (ps := ["pattern", "places", "sign"]) (fun p q h => by simp at h)
  have F4 := fun_mk (st := topS 9) l4 c4 k4
  have B4 := F4.binds (ps := ["pattern", "places"]) fun _ _ _ _ _ _ us hl => match us, hl with | [_, _], _ => rfl
  have C4 := F4.kbs (ps := ["pattern", "places"]) (fun p q h => by cases h; exact fun _ _ _ _ _ _ _ _ => rfl)
  have F5 := fun_mk (st := topS 10) l5 c5 k5
  have B5 := F5.binds (ps := ["pattern", "places"]) fun _ _ _ _ _ _ us hl => match us, hl with | [_, _], _ => rfl
  have C5 := F5.kbs (ps := ["pattern", "places"]) (fun p q h => by cases h; exact fun _ _ _ _ _ _ _ _ => rfl)
  have F6 := fun_mk (st := topS 12) l6 c6 k6
  have B6 := F6.binds (ps := ["_law_draws_here", "_law_many"]) fun _ _ _ _ _ _ us hl => match us, hl with | [_, _], _ => rfl
  have C6 := F6.kbs (ps := ["_law_draws_here", "_law_many"]) (fun p q h => by cases h; exact fun _ _ _ _ _ _ _ _ => rfl)
  have F7 := fun_mk (st := topS 13) l7 c7 k7
  have B7 := F7.binds (ps := ["_law_script", "_law_k"]) fun _ _ _ _ _ _ us hl => match us, hl with | [_, _], _ => rfl
  have C7 := F7.kbs (ps := ["_law_script", "_law_k"]) (fun p q h => by cases h; exact fun _ _ _ _ _ _ _ _ => rfl)
  have F8 := fun_mk (st := topS 14) l8 c8 k8
  have B8 := F8.binds (ps := []) fun _ _ _ _ _ _ us hl => match us, hl with | [], _ => rfl
  have C8 := F8.kbs (ps := []) (fun p q h => by simp at h)
  have F9 := fun_mk (st := topS 15) l9 c9 k9
  have B9 := F9.binds (ps := ["_law_draws_here"]) fun _ _ _ _ _ _ us hl => match us, hl with | [_], _ => rfl
  have C9 := F9.kbs (ps := ["_law_draws_here"]) (fun p q h => by simp at h)
  have F10 := fun_mk (st := topS 16) l10 c10 k10
  have B10 := F10.binds (ps := ["_law_draws_here", "_law_some"]) fun _ _ _ _ _ _ us hl => match us, hl with | [_, _], _ => rfl
  have C10 := F10.kbs (ps := ["_law_draws_here", "_law_some"]) (fun p q h => by cases h; exact fun _ _ _ _ _ _ _ _ => rfl)
  have F11 := fun_mk (st := topS 17) l11 c11 k11
  have B11 := F11.binds (ps := ["_law_draws_here", "_law_signs_here", "_law_most"]) fun _ _ _ _ _ _ us hl => match us, hl with | [_, _, _], _ => rfl
  have C11 := F11.kbs (ps := ["_law_draws_here", "_law_signs_here", "_law_most"]) (fun p q h => by simp at h)
  have F12 := fun_mk (st := topS 18) l12 c12 k12
  have B12 := F12.binds (ps := ["_law_draws_here", "_law_signs_here", "_law_parts", "_law_most"]) fun _ _ _ _ _ _ us hl => match us, hl with | [_, _, _, _], _ => rfl
  have C12 := F12.kbs (ps := ["_law_draws_here", "_law_signs_here", "_law_parts", "_law_most"]) (fun p q h => by simp at h)
  have F13 := fun_mk (st := topS 19) l13 c13 k13
  have B13 := F13.binds (ps := ["_law_draws_here", "_law_signs_here"]) fun _ _ _ _ _ _ us hl => match us, hl with | [_, _], _ => rfl
  have C13 := F13.kbs (ps := ["_law_draws_here", "_law_signs_here"]) (fun p q h => by cases h; exact fun _ _ _ _ _ _ _ _ => rfl)
  have F14 := fun_mk (st := topS 20) l14 c14 k14
  have B14 := F14.binds (ps := ["_law_draws_here", "_law_signs_here"]) fun _ _ _ _ _ _ us hl => match us, hl with | [_, _], _ => rfl
  have C14 := F14.kbs (ps := ["_law_draws_here", "_law_signs_here"]) (fun p q h => by cases h; exact fun _ _ _ _ _ _ _ _ => rfl)
  have F15 := fun_mk (st := topS 21) l15 c15 k15
  have B15 := F15.binds (ps := ["_law_draws_here", "_law_signs_here", "_law_part_here"]) fun _ _ _ _ _ _ us hl => match us, hl with | [_, _, _], _ => rfl
  have C15 := F15.kbs (ps := ["_law_draws_here", "_law_signs_here", "_law_part_here"]) (fun p q h => by simp at h)
  have F16 := fun_mk (st := topS 22) l16 c16 k16
  have B16 := F16.binds (ps := ["_law_draws_here", "_law_signs_here", "_law_pattern_here"]) fun _ _ _ _ _ _ us hl => match us, hl with | [_, _, _], _ => rfl
  have C16 := F16.kbs (ps := ["_law_draws_here", "_law_signs_here", "_law_pattern_here"]) (fun p q h => by simp at h)
  have F17 := fun_mk (st := topS 23) l17 c17 k17
  have B17 := F17.binds (ps := ["_law_parts", "_law_places"]) fun _ _ _ _ _ _ us hl => match us, hl with | [_, _], _ => rfl
  have C17 := F17.kbs (ps := ["_law_parts", "_law_places"]) (fun p q h => by cases h; exact fun _ _ _ _ _ _ _ _ => rfl)
  have F18 := fun_mk (st := topS 24) l18 c18 k18
  have B18 := F18.binds (ps := ["_law_patterns"]) fun _ _ _ _ _ _ us hl => match us, hl with | [_], _ => rfl
  have C18 := F18.kbs (ps := ["_law_patterns"]) (fun p q h => by simp at h)
  have F19 := fun_mk (st := topS 25) l19 c19 k19
  have B19 := F19.binds (ps := ["_law_found", "_law_due"]) fun _ _ _ _ _ _ us hl => match us, hl with | [_, _], _ => rfl
  have C19 := F19.kbs (ps := ["_law_found", "_law_due"]) (fun p q h => by cases h; exact fun _ _ _ _ _ _ _ _ => rfl)
  have F20 := fun_mk (st := topS 26) l20 c20 k20
  have B20 := F20.binds (ps := ["_law_pattern_here", "_law_places"]) fun _ _ _ _ _ _ us hl => match us, hl with | [_, _], _ => rfl
  have C20 := F20.kbs (ps := ["_law_pattern_here", "_law_places"]) (fun p q h => by cases h; exact fun _ _ _ _ _ _ _ _ => rfl)
  have F21 := fun_mk (st := topS 27) l21 c21 k21
  have B21 := F21.binds (ps := ["_law_pattern_here", "_law_places", "_law_sign"]) fun _ _ _ _ _ _ us hl => match us, hl with | [_, _, _], _ => rfl
  have C21 := F21.kbs (ps := ["_law_pattern_here", "_law_places", "_law_sign"]) (fun p q h => by simp at h)
  have F22 := fun_mk (st := topS 28) l22 c22 k22
  have B22 := F22.binds (ps := ["_law_draws_here", "_law_pattern_here"]) fun _ _ _ _ _ _ us hl => match us, hl with | [_, _], _ => rfl
  have C22 := F22.kbs (ps := ["_law_draws_here", "_law_pattern_here"]) (fun p q h => by cases h; exact fun _ _ _ _ _ _ _ _ => rfl)
  have F23 := fun_mk (st := topS 29) l23 c23 k23
  have B23 := F23.binds (ps := ["_law_script"]) fun _ _ _ _ _ _ us hl => match us, hl with | [_], _ => rfl
  have C23 := F23.kbs (ps := ["_law_script"]) (fun p q h => by simp at h)
  have A : ∀ e ∈ tab, EntAt K mg e := by
    intro e he
    simp only [tab, List.mem_cons, List.not_mem_nil, or_false] at he
    rcases he with rfl | rfl | rfl | rfl | rfl | rfl | rfl | rfl | rfl | rfl | rfl | rfl | rfl | rfl | rfl | rfl | rfl | rfl | rfl | rfl | rfl | rfl | rfl | rfl
    · exact ⟨_, _, F0, PySem.W.mg_of X G a0, B0, C0⟩
    · exact ⟨_, _, F1, PySem.W.mg_of X G a1, B1, C1⟩
    · exact ⟨_, _, F2, PySem.W.mg_of X G a2, B2, C2⟩
    · exact ⟨_, _, F3, PySem.W.mg_of X G a3, B3, C3⟩
    · exact ⟨_, _, F4, PySem.W.mg_of X G a4, B4, C4⟩
    · exact ⟨_, _, F5, PySem.W.mg_of X G a5, B5, C5⟩
    · exact ⟨_, _, F6, PySem.W.mg_of X G a6, B6, C6⟩
    · exact ⟨_, _, F7, PySem.W.mg_of X G a7, B7, C7⟩
    · exact ⟨_, _, F8, PySem.W.mg_of X G a8, B8, C8⟩
    · exact ⟨_, _, F9, PySem.W.mg_of X G a9, B9, C9⟩
    · exact ⟨_, _, F10, PySem.W.mg_of X G a10, B10, C10⟩
    · exact ⟨_, _, F11, PySem.W.mg_of X G a11, B11, C11⟩
    · exact ⟨_, _, F12, PySem.W.mg_of X G a12, B12, C12⟩
    · exact ⟨_, _, F13, PySem.W.mg_of X G a13, B13, C13⟩
    · exact ⟨_, _, F14, PySem.W.mg_of X G a14, B14, C14⟩
    · exact ⟨_, _, F15, PySem.W.mg_of X G a15, B15, C15⟩
    · exact ⟨_, _, F16, PySem.W.mg_of X G a16, B16, C16⟩
    · exact ⟨_, _, F17, PySem.W.mg_of X G a17, B17, C17⟩
    · exact ⟨_, _, F18, PySem.W.mg_of X G a18, B18, C18⟩
    · exact ⟨_, _, F19, PySem.W.mg_of X G a19, B19, C19⟩
    · exact ⟨_, _, F20, PySem.W.mg_of X G a20, B20, C20⟩
    · exact ⟨_, _, F21, PySem.W.mg_of X G a21, B21, C21⟩
    · exact ⟨_, _, F22, PySem.W.mg_of X G a22, B22, C22⟩
    · exact ⟨_, _, F23, PySem.W.mg_of X G a23, B23, C23⟩
  have O : ∀ e ∈ tab, EntOk ⟨cs, tabF tab, kwF tab⟩ e := by
    intro e he
    simp only [tab, List.mem_cons, List.not_mem_nil, or_false] at he
    rcases he with rfl | rfl | rfl | rfl | rfl | rfl | rfl | rfl | rfl | rfl | rfl | rfl | rfl | rfl | rfl | rfl | rfl | rfl | rfl | rfl | rfl | rfl | rfl | rfl
    · exact ok0
    · exact ok1
    · exact ok2
    · exact ok3
    · exact ok4
    · exact ok5
    · exact ok6
    · exact ok7
    · exact ok8
    · exact ok9
    · exact ok10
    · exact ok11
    · exact ok12
    · exact ok13
    · exact ok14
    · exact ok15
    · exact ok16
    · exact ok17
    · exact ok18
    · exact ok19
    · exact ok20
    · exact ok21
    · exact ok22
    · exact ok23
  have hP : ∀ e ∈ tab, tabP tab e.ix = some ⟨e.ks, e.N.length, e.body⟩ := by
    intro e he
    simp only [tab, List.mem_cons, List.not_mem_nil, or_false] at he
    rcases he with rfl | rfl | rfl | rfl | rfl | rfl | rfl | rfl | rfl | rfl | rfl | rfl | rfl | rfl | rfl | rfl | rfl | rfl | rfl | rfl | rfl | rfl | rfl | rfl <;> rfl
  have hb : ∀ x ∈ bnames, mg x = none := by
    intro x hx
    simp only [bnames, List.mem_cons, List.not_mem_nil, or_false] at hx
    rcases hx with rfl | rfl | rfl | rfl | rfl | rfl | rfl | rfl | rfl | rfl | rfl | rfl | rfl | rfl | rfl | rfl
    · exact PySem.W.mg_none_of X G z0
    · exact PySem.W.mg_none_of X G z1
    · exact PySem.W.mg_none_of X G z2
    · exact PySem.W.mg_none_of X G z3
    · exact PySem.W.mg_none_of X G z4
    · exact PySem.W.mg_none_of X G z5
    · exact PySem.W.mg_none_of X G z6
    · exact PySem.W.mg_none_of X G z7
    · exact PySem.W.mg_none_of X G z8
    · exact PySem.W.mg_none_of X G z9
    · exact PySem.W.mg_none_of X G z10
    · exact PySem.W.mg_none_of X G z11
    · exact PySem.W.mg_none_of X G z12
    · exact PySem.W.mg_none_of X G z13
    · exact PySem.W.mg_none_of X G z14
    · exact PySem.W.mg_none_of X G z15
  have hc : ∀ x d, cs.lookup x = some d → ∃ u v, mg x = some u ∧ RelV v u ∧ ∀ F H, Rep ⟨K, w⟩ F H v d [] := by
    intro x d hx
    have hm := mem_of_lookup hx
    simp only [cs, List.mem_cons, List.not_mem_nil, or_false, Prod.mk.injEq] at hm
    rcases hm with ⟨rfl, rfl⟩ | ⟨rfl, rfl⟩ | ⟨rfl, rfl⟩ | ⟨rfl, rfl⟩
    · exact ⟨_, .str ⟨List.toArray [47]⟩, PySem.W.mg_of X G m0, ⟨t0, by rw [y0]⟩, fun F H => .str _ (by decide)⟩
    · exact ⟨_, .str ⟨List.toArray [42, 42]⟩, PySem.W.mg_of X G m1, ⟨t1, by rw [y1]⟩, fun F H => .str _ (by decide)⟩
    · exact ⟨_, .str ⟨List.toArray [42]⟩, PySem.W.mg_of X G m2, ⟨t2, by rw [y2]⟩, fun F H => .str _ (by decide)⟩
    · exact ⟨_, .str ⟨List.toArray [63]⟩, PySem.W.mg_of X G m3, ⟨t3, by rw [y3]⟩, fun F H => .str _ (by decide)⟩
  refine ⟨_, fun s v => .of_eq rfl, fun base _ _ => (one_fn (T := tab) (e := e23) (all_fns hc hb O hP A 4) rfl ok23 F23).imp ?_⟩
  exact law_imp law_runs
end Z
open PySem PySem.W PyProof.Rows
set_option maxHeartbeats 0 in
theorem PySem.Challenge.cw_lookdue_k11_places_of_patterns_holds : PySem.Challenge.rw_lookdue_k11_places_of_patterns.Holds := by
  w_on; o_law; k_head; (case hw => w_witness2)
  k_fill
  refine L2.walk_of (l := PySem.Challenge.rw_lookdue_k11_places_of_patterns) (n := 63) (k := 5) (x := "_law_script") (CX := fun _ => L2.CX0) (sp := fun w => Z.spLaw _ 63) rfl (by decide) rfl ⟨rfl, by decide, by decide⟩ (fun w h Y => PySem.W.kIn_of Y) ?F (fun _ _ a ns hl _ hS => ⟨a, ns, rfl, hS, hl, fun _ => rfl⟩) (fun _ _ _ _ _ h => h)
  case F =>
    intro w mg fa h KX G hmg
    refine' Z.all_mk KX G hmg ?a0 ?l0 ?c0 ?k0 ?a1 ?l1 ?c1 ?k1 ?a2 ?l2 ?c2 ?k2 ?a3 ?l3 ?c3 ?k3 ?a4 ?l4 ?c4 ?k4 ?a5 ?l5 ?c5 ?k5 ?a6 ?l6 ?c6 ?k6 ?a7 ?l7 ?c7 ?k7 ?a8 ?l8 ?c8 ?k8 ?a9 ?l9 ?c9 ?k9 ?a10 ?l10 ?c10 ?k10 ?a11 ?l11 ?c11 ?k11 ?a12 ?l12 ?c12 ?k12 ?a13 ?l13 ?c13 ?k13 ?a14 ?l14 ?c14 ?k14 ?a15 ?l15 ?c15 ?k15 ?a16 ?l16 ?c16 ?k16 ?a17 ?l17 ?c17 ?k17 ?a18 ?l18 ?c18 ?k18 ?a19 ?l19 ?c19 ?k19 ?a20 ?l20 ?c20 ?k20 ?a21 ?l21 ?c21 ?k21 ?a22 ?l22 ?c22 ?k22 ?a23 ?l23 ?c23 ?k23 ?m0 ?y0 ?m1 ?y1 ?m2 ?y2 ?m3 ?y3 ?z0 ?z1 ?z2 ?z3 ?z4 ?z5 ?z6 ?z7 ?z8 ?z9 ?z10 ?z11 ?z12 ?z13 ?z14 ?z15
    (case a0 => k_is)
    (case l0 => k_is)
    (case c0 => k_is)
    (case k0 => k_is)
    (case a1 => k_is)
    (case l1 => k_is)
    (case c1 => k_is)
    (case k1 => k_is)
    (case a2 => k_is)
    (case l2 => k_is)
    (case c2 => k_is)
    (case k2 => k_is)
    (case a3 => k_is)
    (case l3 => k_is)
    (case c3 => k_is)
    (case k3 => k_is)
    (case a4 => k_is)
    (case l4 => k_is)
    (case c4 => k_is)
    (case k4 => k_is)
    (case a5 => k_is)
    (case l5 => k_is)
    (case c5 => k_is)
    (case k5 => k_is)
    (case a6 => k_is)
    (case l6 => k_is)
    (case c6 => k_is)
    (case k6 => k_is)
    (case a7 => k_is)
    (case l7 => k_is)
    (case c7 => k_is)
    (case k7 => k_is)
    (case a8 => k_is)
    (case l8 => k_is)
    (case c8 => k_is)
    (case k8 => k_is)
    (case a9 => k_is)
    (case l9 => k_is)
    (case c9 => k_is)
    (case k9 => k_is)
    (case a10 => k_is)
    (case l10 => k_is)
    (case c10 => k_is)
    (case k10 => k_is)
    (case a11 => k_is)
    (case l11 => k_is)
    (case c11 => k_is)
    (case k11 => k_is)
    (case a12 => k_is)
    (case l12 => k_is)
    (case c12 => k_is)
    (case k12 => k_is)
    (case a13 => k_is)
    (case l13 => k_is)
    (case c13 => k_is)
    (case k13 => k_is)
    (case a14 => k_is)
    (case l14 => k_is)
    (case c14 => k_is)
    (case k14 => k_is)
    (case a15 => k_is)
    (case l15 => k_is)
    (case c15 => k_is)
    (case k15 => k_is)
    (case a16 => k_is)
    (case l16 => k_is)
    (case c16 => k_is)
    (case k16 => k_is)
    (case a17 => k_is)
    (case l17 => k_is)
    (case c17 => k_is)
    (case k17 => k_is)
    (case a18 => k_is)
    (case l18 => k_is)
    (case c18 => k_is)
    (case k18 => k_is)
    (case a19 => k_is)
    (case l19 => k_is)
    (case c19 => k_is)
    (case k19 => k_is)
    (case a20 => k_is)
    (case l20 => k_is)
    (case c20 => k_is)
    (case k20 => k_is)
    (case a21 => k_is)
    (case l21 => k_is)
    (case c21 => k_is)
    (case k21 => k_is)
    (case a22 => k_is)
    (case l22 => k_is)
    (case c22 => k_is)
    (case k22 => k_is)
    (case a23 => k_is)
    (case l23 => k_is)
    (case c23 => k_is)
    (case k23 => k_is)
    (case m0 => k_is)
    (case m1 => k_is)
    (case m2 => k_is)
    (case m3 => k_is)
    (case y0 => first | rfl | kernel_rfl | decide)
    (case y1 => first | rfl | kernel_rfl | decide)
    (case y2 => first | rfl | kernel_rfl | decide)
    (case y3 => first | rfl | kernel_rfl | decide)
    (case z0 => k_is)
    (case z1 => k_is)
    (case z2 => k_is)
    (case z3 => k_is)
    (case z4 => k_is)
    (case z5 => k_is)
    (case z6 => k_is)
    (case z7 => k_is)
    (case z8 => k_is)
    (case z9 => k_is)
    (case z10 => k_is)
    (case z11 => k_is)
    (case z12 => k_is)
    (case z13 => k_is)
    (case z14 => k_is)
    (case z15 => k_is)


