import PyProof.Rows.All
import Wide.All
import OpenK.AllK
import Wide.FinOn
import HandS.ForMost
import HandS.TupAny
import HandS.Wide
import HandS.Codes
import HandS.Deep
import HandS.IsInst
import HandS.Iter
import HandS.Zip
import PySem.Challenge.RW_lookdue_k03_what_is_a_pattern
set_option Elab.async false
set_option linter.all false
/-! Data as trees, a small language, its interpreter. -/
namespace Z

/-- data: a list, a dict, a set, an instance bears whether it is owned (true) or frozen (false) -/
inductive D where
  | non | bl (b : Bool) | int (i : Int) | str (s : List Nat)
  | tup (xs : List D) | lst (o : Bool) (xs : List D) | dct (o : Bool) (kvs : List (D × D)) | set (o : Bool) (xs : List D)
  | ins (o : Bool) (c : Nat) (fs : List (Nat × D))

mutual
def D.frz : D → D
  | .tup xs => .tup (frzL xs)
  | .lst _ xs => .lst false (frzL xs)
  | .dct _ kvs => .dct false (frzP kvs)
  | .set _ xs => .set false (frzL xs)
  | .ins _ c fs => .ins false c (frzF fs)
  | .non => .non
  | .bl b => .bl b
  | .int i => .int i
  | .str s => .str s
def frzL : List D → List D
  | [] => []
  | d :: r => d.frz :: frzL r
def frzP : List (D × D) → List (D × D)
  | [] => []
  | (k, v) :: r => (k.frz, v.frz) :: frzP r
def frzF : List (Nat × D) → List (Nat × D)
  | [] => []
  | (k, v) :: r => (k, v.frz) :: frzF r
end
mutual
def D.own : D → Bool
  | .tup xs => ownL xs
  | .lst o xs => o || ownL xs
  | .dct o kvs => o || ownP kvs
  | .set o xs => o || ownL xs
  | .ins o _ fs => o || ownF fs
  | .non => false
  | .bl _ => false
  | .int _ => false
  | .str _ => false
def ownL : List D → Bool
  | [] => false
  | d :: r => d.own || ownL r
def ownP : List (D × D) → Bool
  | [] => false
  | (k, v) :: r => k.own || (v.own || ownP r)
def ownF : List (Nat × D) → Bool
  | [] => false
  | (_, v) :: r => v.own || ownF r
end
mutual
/-- how deep; 1000 with a dict, a set, an instance within -/
def D.dep : D → Nat
  | .tup xs => depL xs + 1
  | .lst _ xs => depL xs + 1
  | .dct _ _ => 1000
  | .set _ _ => 1000
  | .ins _ _ _ => 1000
  | .non => 0
  | .bl _ => 0
  | .int _ => 0
  | .str _ => 0
def depL : List D → Nat
  | [] => 0
  | d :: r => max d.dep (depL r)
end
def b2i (b : Bool) : Int := if b then 1 else 0
mutual
/-- == -/
def D.peq : D → D → Bool
  | .non, .non => true
  | .bl a, .bl b => a == b
  | .bl a, .int j => b2i a == j
  | .int i, .bl b => i == b2i b
  | .int i, .int j => i == j
  | .str s, .str t => s == t
  | .tup xs, .tup ys => peqL xs ys
  | .lst _ xs, .lst _ ys => peqL xs ys
  | _, _ => false
def peqL : List D → List D → Bool
  | [], [] => true
  | x :: xs, y :: ys => x.peq y && peqL xs ys
  | _, _ => false
end
/-- plain signs alone -/
def asc (s : List Nat) : Bool := s.all fun c => decide (c < 128)
abbrev Env := List (Option D)
def get (s : Env) (i : Nat) : Option D := s.getD i none
/-- an exception: its class, its fields -/
inductive X where
  | mk (c : Nat) (fs : List (Nat × D))
inductive R (α : Type) where
  | ok (a : α) (s : Env) | exc (x : X) (s : Env) | bad
def R.bind {α β : Type} (r : R α) (f : α → Env → R β) : R β :=
  match r with
  | .ok a s => f a s
  | .exc x s => .exc x s
  | .bad => .bad
@[simp] theorem bind_ok {α β : Type} (a : α) (s : Env) (f : α → Env → R β) : (R.ok a s).bind f = f a s := rfl
@[simp] theorem bind_exc {α β : Type} (x : X) (s : Env) (f : α → Env → R β) : (R.exc x s).bind f = .exc x s := rfl
@[simp] theorem bind_bad {α β : Type} (f : α → Env → R β) : (R.bad : R α).bind f = .bad := rfl
def R.of {α : Type} (o : Option α) (s : Env) : R α :=
  match o with
  | some a => .ok a s
  | none => .bad
@[simp] theorem of_some {α : Type} (a : α) (s : Env) : R.of (some a) s = .ok a s := rfl
@[simp] theorem of_none {α : Type} (s : Env) : R.of (none : Option α) s = .bad := rfl

/-! ### operations by values -/
def SL : Nat := 16777216
def BIG : Nat := 1044388881413152506691752710716624382579964249047383780384233483283953907971557456848826811934997558340890106714439262837987573438185793607263236087851365277945956976543709998340361590134383718314428070011855946226376318839397712745672334684344586617496807908705803704071284048740118609114467977783598029006686938976881787785946905630190260940599579453432823469303026696443059025015972399867714215541693835559885291486318237914434496734087811872639496475100189041349008417061675093668333850551032972088269550769983616369411933015213796825837188091833656751221318492846368125550225998300412344784862595674492194617023806505913245610825731835380087608622102834270197698202313169017678006675195485079921636419370285375124784014907159135459982790513399611551794271106831134090584272884279791554849782954323534517065223269061394905987693002122963395687782878948440616007412945674919823050571642377154816321380631045902916136926708342856440730447899971901781465763473223850267253059899795996090799469201774624817718449867455659250178329070473119433165550807568221846571746373296884912819520317457002440926616910874148385078411929804522981857338977648103126085903001302413467189726673216491511131602920781738033436090243804708340403154190336
inductive U1 where
  | len | all | any | list | tuple | int | neg | not | isNone | notNone | isStr | isTup | isLst | isBool | isInt | isSeq | upper
inductive O2 where
  | add | sub | mul | fdiv | mod | pow | eq | ne | lt | le | gt | ge | isin | notin | ix | split | join | min | max
/-- all are truths -/
def truths : List D → Option (List Bool)
  | [] => some []
  | .bl b :: r => (truths r).map (b :: ·)
  | _ => none
def D.isStrB : D → Bool | .str _ => true | _ => false
def D.isTupB : D → Bool | .tup _ => true | _ => false
def D.isLstB : D → Bool | .lst _ _ => true | _ => false
def D.isBoolB : D → Bool | .bl _ => true | _ => false
def D.isIntB : D → Bool | .int _ => true | .bl _ => true | _ => false
def strsOf : List D → Option (List (List Nat))
  | [] => some []
  | .str s :: r => (strsOf r).map (s :: ·)
  | _ => none
/-- what is walked -/
def iterOf : D → Option (List D)
  | .lst _ xs => some xs
  | .tup xs => some xs
  | .str s => if s.length ≤ SL then some (s.map fun c => .str [c]) else none
  | _ => none
def lenOf : D → Option Nat
  | .lst _ xs => some xs.length
  | .tup xs => some xs.length
  | .str s => if s.length ≤ SL then some s.length else none
  | _ => none
def upc (c : Nat) : Nat := if 97 ≤ c ∧ c ≤ 122 then c - 32 else c
def un1 : U1 → D → Option D
  | .len, d => (lenOf d).map fun (n : Nat) => D.int (n : Int)
  | .all, .lst _ xs => (truths xs).map fun bs => .bl (bs.all id)
  | .any, .lst _ xs => (truths xs).map fun bs => .bl (bs.any id)
  | .list, .lst _ xs => if ownL xs then none else some (.lst true xs)
  | .list, .tup xs => if ownL xs then none else some (.lst true xs)
  | .tuple, .lst _ xs => if ownL xs then none else some (.tup xs)
  | .tuple, .tup xs => if ownL xs then none else some (.tup xs)
  | .int, .int i => some (.int i)
  | .int, .bl b => some (.int (b2i b))
  | .neg, .int i => some (.int (-i))
  | .not, .bl b => some (.bl (!b))
  | .isNone, d => some (.bl (match d with | .non => true | _ => false))
  | .notNone, d => some (.bl (match d with | .non => false | _ => true))
  | .isStr, d => some (.bl d.isStrB)
  | .isTup, d => some (.bl d.isTupB)
  | .isLst, d => some (.bl d.isLstB)
  | .isBool, d => some (.bl d.isBoolB)
  | .isInt, d => some (.bl d.isIntB)
  | .isSeq, d => some (.bl (d.isTupB || d.isLstB))
  | .upper, .str s => if s.length ≤ 5592405 then some (.str (s.map upc)) else none
  | _, _ => none
def mulOk (i j : Int) : Bool := decide (i.natAbs < 18446744073709551616) || (decide (j.natAbs < 18446744073709551616) || (decide (i.natAbs < BIG) && decide (j.natAbs < BIG)))
/-- where an index stands -/
def ixOf (n : Nat) (i : Int) : Option Nat := if 0 ≤ i then (if i < n then some i.toNat else none) else if -(n : Int) ≤ i then some (i + n).toNat else none
def at_ {α : Type} (xs : List α) (i : Int) : Option α := (ixOf xs.length i).bind fun j => xs[j]?
/-- parted at each c -/
def parts (c : Nat) : List Nat → List (List Nat)
  | [] => [[]]
  | x :: xs => if x = c then [] :: parts c xs else match parts c xs with | [] => [[x]] | p :: ps => (x :: p) :: ps
def joined (sep : List Nat) : List (List Nat) → List Nat
  | [] => []
  | [x] => x
  | x :: y :: xs => x ++ (sep ++ joined sep (y :: xs))
def lexb : List Nat → List Nat → Bool
  | [], [] => false
  | [], _ :: _ => true
  | _ :: _, [] => false
  | x :: xs, y :: ys => if x = y then lexb xs ys else decide (x < y)
def infixB (p : List Nat) : List Nat → Bool
  | [] => p.isEmpty
  | c :: s => p.isPrefixOf (c :: s) || infixB p s
def inOf (x : D) : D → Option Bool
  | .lst _ ys => if x.dep ≤ 63 ∧ depL ys ≤ 63 then some (ys.any fun y => y.peq x) else none
  | .tup ys => if x.dep ≤ 63 ∧ depL ys ≤ 63 then some (ys.any fun y => y.peq x) else none
  | .str t => match x with | .str p => some (infixB p t) | _ => none
  | _ => none
def eqOf (x y : D) : Option Bool := if x.dep ≤ 64 ∧ y.dep ≤ 64 then some (x.peq y) else none
def op2 : O2 → D → D → Option D
  | .add, .int i, .int j => some (.int (i + j))
  | .add, .str s, .str t => if s.length + t.length ≤ SL then some (.str (s ++ t)) else none
  | .add, .lst _ xs, .lst _ ys => if ownL xs ∨ ownL ys ∨ SL < xs.length + ys.length then none else some (.lst true (xs ++ ys))
  | .add, .tup xs, .tup ys => if ownL xs ∨ ownL ys ∨ SL < xs.length + ys.length then none else some (.tup (xs ++ ys))
  | .sub, .int i, .int j => some (.int (i - j))
  | .mul, .int i, .int j => if mulOk i j then some (.int (i * j)) else none
  | .mul, .str s, .int j => if j < 1000000 ∧ -1000000 < j ∧ s.length * j.toNat ≤ SL then some (.str (List.replicate j.toNat s).flatten) else none
  | .fdiv, .int i, .int j => if 0 < j ∧ j < 1073741824 then some (.int (i / j)) else none
  | .mod, .int i, .int j => if 0 < j then some (.int (i % j)) else none
  | .pow, .int i, .int j => if 0 ≤ j ∧ j ≤ 1000000 ∧ i.natAbs < 18446744073709551616 then some (.int (i ^ j.toNat)) else none
  | .eq, x, y => (eqOf x y).map .bl
  | .ne, x, y => (eqOf x y).map fun b => .bl (!b)
  | .lt, .int i, .int j => some (.bl (decide (i < j)))
  | .le, .int i, .int j => some (.bl (decide (i ≤ j)))
  | .gt, .int i, .int j => some (.bl (decide (j < i)))
  | .ge, .int i, .int j => some (.bl (decide (j ≤ i)))
  | .lt, .str i, .str j => some (.bl (lexb i j))
  | .le, .str i, .str j => some (.bl (!lexb j i))
  | .gt, .str i, .str j => some (.bl (lexb j i))
  | .ge, .str i, .str j => some (.bl (!lexb i j))
  | .isin, x, y => (inOf x y).map .bl
  | .notin, x, y => (inOf x y).map fun b => .bl (!b)
  | .ix, .lst _ xs, .int i => at_ xs i
  | .ix, .tup xs, .int i => at_ xs i
  | .ix, .str s, .int i => if s.length ≤ SL then (at_ s i).map fun c => .str [c] else none
  | .split, .str s, .str [c] => if s.length + 2 ≤ SL then some (.lst true ((parts c s).map .str)) else none
  | .join, .str s, .lst _ xs => (strsOf xs).bind fun ys => if (ys.map List.length).sum + ys.length * s.length ≤ SL then some (.str (joined s ys)) else none
  | .min, .int i, .int j => some (.int (if j < i then j else i))
  | .max, .int i, .int j => some (.int (if j > i then j else i))
  | _, _, _ => none
def sIx (n d : Nat) : Option Int → Nat
  | none => d
  | some v => if v < 0 then (v + (n : Int)).toNat else min v.toNat n
def cut {α : Type} (xs : List α) (lo hi : Option Int) : List α := (xs.drop (sIx xs.length 0 lo)).take (sIx xs.length xs.length hi - sIx xs.length 0 lo)
/-- an end of a slice: written or not -/
def endOf : Bool → D → Option (Option Int)
  | false, _ => some none
  | true, .int i => some (some i)
  | true, _ => none
def slice2 (x : D) (l h : Option Int) : Option D := match x with
  | .lst _ xs => if ownL xs then none else some (.lst true (cut xs l h))
  | .tup xs => if ownL xs then none else some (.tup (cut xs l h))
  | .str s => if s.length ≤ SL then some (.str (cut s l h)) else none
  | _ => none
def slice3 (p q : Bool) (x lo hi : D) : Option D := (endOf p lo).bind fun l => (endOf q hi).bind fun h => slice2 x l h
/-- the methods that change a list (or dict) -/
inductive Mu where
  | append | pop | extend | insert | popAt
def mutate : Mu → D → List D → Option (D × D)
  | .append, .lst true xs, [y] => if xs.length < SL then some (.non, .lst true (xs ++ [y])) else none
  | .pop, .lst true xs, [] => match xs.getLast? with | some y => some (y, .lst true xs.dropLast) | none => none
  | .extend, .lst true xs, [.lst _ ys] => if ownL ys ∨ SL < xs.length + ys.length then none else some (.non, .lst true (xs ++ ys))
  | .insert, .lst true xs, [.int i, y] => if xs.length < SL ∧ 0 ≤ i ∧ i < 4611686018427387904 then some (.non, .lst true (xs.take i.toNat ++ y :: xs.drop i.toNat)) else none
  | .popAt, .lst true xs, [.int i] => (ixOf xs.length i).bind fun j => xs[j]?.map fun y => (y, .lst true (xs.eraseIdx j))
  | _, _, _ => none
def muOk : Mu → D → Bool
  | _, .lst _ _ => true
  | _, _ => false
/-- x[k] = y -/
def storeAt : D → D → D → Option D
  | .lst true xs, .int i, y => (ixOf xs.length i).map fun j => .lst true (xs.set j y)
  | _, _, _ => none

/-- x op= y, of numbers and texts -/
def aug2 : O2 → D → D → Option D
  | .add, .int i, .int j => some (.int (i + j))
  | .add, .str s, .str t => if s.length + t.length ≤ SL then some (.str (s ++ t)) else none
  | .sub, .int i, .int j => some (.int (i - j))
  | _, _, _ => none

/-! ### the language -/
mutual
inductive E where
  | c (d : D) | v (i : Nat) | fr (i : Nat) | mov (i : Nat) | val (e : E) | fz (e : E)
  | un (u : U1) (a : E) | op (o : O2) (k : Bool) (a b : E) | slc (p q : Bool) (a lo hi : E)
  | and (a b : E) | or (a b : E) | ite (c a b : E) | chain (o p : O2) (a b c : E)
  | tup (es : EL) | lst (es : EL)
  | call (f : Nat) (as : List (Option Nat)) (es : EL) | mu (m : Mu) (i : Nat) (es : EL)
  | comp (elt : E) (tg : T) (src : Sr) (cnd : E) (own : List Nat)
inductive EL where
  | nil | cons (e : E) (es : EL)
/-- what a loop walks -/
inductive Sr where
  | of (e : E) | rng (a : E) | rng3 (a b c : E) | zip (a b : E) | enum (a : E)
/-- a target -/
inductive T where
  | nm (i : Nat) | tp (is : List Nat)
end
inductive S where
  | skip | asg (i : Nat) (e : E) | unp (is : List Nat) (e : E) | st (i : Nat) (k e : E) | aug (i : Nat) (o : O2) (e : E)
  | ex (e : E) | ret (e : E) | seq (a b : S) | ite (c : E) (a b : S) | wh (c : E) (b : S) | for (tg : T) (src : Sr) (b : S) | brk | cnt
structure Fn where
  ks : List Bool
  n : Nat
  body : S
inductive CR where
  | ok (d : D) (io : Env) | exc (x : X) (io : Env) | bad
inductive O where
  | nxt (s : Env) | ret (d : D) (s : Env) | brk (s : Env) | cnt (s : Env) | exc (x : X) (s : Env) | bad

def asB : D → Option Bool | .bl b => some b | _ => none
def asI : D → Option Int | .int b => some b | _ => none
/-- the slots are what they were -/
def restore (old s : Env) : List Nat → Env
  | [] => s
  | i :: is => (restore old s is).set i (get old i)
def wipe (s : Env) : List Nat → Env
  | [] => s
  | i :: is => (wipe s is).set i none
def assignT : T → D → Env → Option Env
  | .nm i, d, s => some (s.set i (some d))
  | .tp is, .tup xs, s => if is.length = xs.length then some ((is.zip xs).foldl (fun s p => s.set p.1 (some p.2)) s) else none
  | _, _, _ => none
/-- the arguments that are handed in and out are taken from the slots when all others are there -/
def fill : List (Option Nat) → List D → Env → Option (List D × Env)
  | [], [], s => some ([], s)
  | none :: as, d :: ds, s => (fill as ds s).map fun (r, s) => (d :: r, s)
  | some i :: as, _ :: ds, s => (get s i).bind fun d => (fill as ds (s.set i none)).map fun (r, s) => (d :: r, s)
  | _, _, _ => none
def back : List (Option Nat) → Env → Env → Env
  | some i :: as, o :: io, s => (back as io s).set i o
  | none :: as, _ :: io, s => back as io s
  | _, _, s => s
def compL (f : D → Env → R (Option D)) : List D → Env → R (List D)
  | [], s => .ok [] s
  | x :: r, s => (f x s).bind fun o s => (compL f r s).bind fun ys s => .ok (o.toList ++ ys) s
/-- lo, lo + c, .. -/
def rangeUp (lo : Int) : Nat → List D
  | 0 => []
  | n + 1 => .int lo :: rangeUp (lo + 1) n
def rangeDown (lo : Int) : Nat → List D
  | 0 => []
  | n + 1 => .int lo :: rangeDown (lo - 1) n
def rng1 (j : Int) : Option (List D) := if j < 4611686018427387904 ∧ -4611686018427387904 ≤ j then some (rangeUp 0 j.toNat) else none
def rng3 (a b c : Int) : Option (List D) := if c = -1 ∧ -1000000 ≤ a ∧ a ≤ 1000000 ∧ -1000000 ≤ b ∧ b ≤ 1000000 then some (rangeDown a (a - b).toNat) else none
def zipD (xs ys : List D) : List D := (xs.zip ys).map fun p => .tup [p.1, p.2]
def enumD (k : Int) : List D → List D
  | [] => []
  | x :: xs => .tup [.int k, x] :: enumD (k + 1) xs
mutual
def ev (C : Nat → List D → CR) : E → Env → R D
  | .c d, s => .ok d s
  | .v i, s => R.of (get s i) s
  | .fr i, s => match get s i with
    | some d => .ok d.frz (s.set i (some d.frz))
    | none => .bad
  | .mov i, s => match get s i with
    | some d => .ok d (s.set i none)
    | none => .bad
  | .val e, s => (ev C e s).bind fun d s => if d.own then .bad else .ok d s
  | .fz e, s => (ev C e s).bind fun d s => .ok d.frz s
  | .un u a, s => (ev C a s).bind fun x s => R.of (un1 u x) s
  | .op o k a b, s => (ev C a s).bind fun x s => (ev C b s).bind fun y s => if k && x.own then .bad else R.of (op2 o x y) s
  | .slc p q a lo hi, s => (ev C a s).bind fun x s => (ev C lo s).bind fun l s => (ev C hi s).bind fun h s => if x.own then .bad else R.of (slice3 p q x l h) s
  | .and a b, s => (ev C a s).bind fun x s => match asB x with
    | some true => ev C b s
    | some false => .ok (.bl false) s
    | none => .bad
  | .or a b, s => (ev C a s).bind fun x s => match asB x with
    | some false => ev C b s
    | some true => .ok (.bl true) s
    | none => .bad
  | .ite c a b, s => (ev C c s).bind fun x s => match asB x with
    | some true => ev C a s
    | some false => ev C b s
    | none => .bad
  | .chain o p a b c, s => (ev C a s).bind fun x s => (ev C b s).bind fun y s => if x.own || y.own then .bad else (R.of (op2 o x y) s).bind fun z s => match asB z with
    | some true => (ev C c s).bind fun w s => R.of (op2 p y w) s
    | some false => .ok (.bl false) s
    | none => .bad
  | .tup es, s => (evL C es s).bind fun ds s => .ok (.tup ds) s
  | .lst es, s => (evL C es s).bind fun ds s => .ok (.lst true ds) s
  | .call f as es, s => (evL C es s).bind fun ds s => match fill as ds s with
    | none => .bad
    | some (ds, s) => match C f ds with
      | .ok d io => .ok d (back as io s)
      | .exc x io => .exc x (back as io s)
      | .bad => .bad
  | .mu m i es, s => match get s i with
    | none => .bad
    | some d0 => if muOk m d0 then (evL C es s).bind fun ds s => match get s i with
        | none => .bad
        | some d => match mutate m d ds with
          | some (r, d') => .ok r (s.set i (some d'))
          | none => .bad
      else .bad
  | .comp elt tg src cnd own, s => (evS C src s).bind fun xs s1 => if SL < xs.length then .bad else (compL (fun x s => match assignT tg x (wipe s own) with
      | none => .bad
      | some s => (ev C cnd s).bind fun b s => match asB b with
        | some true => (ev C elt s).bind fun y s => .ok (some y) s
        | some false => .ok none s
        | none => .bad) xs s1).bind fun ys s2 => .ok (.lst true ys) (restore s1 s2 own)
def evL (C : Nat → List D → CR) : EL → Env → R (List D)
  | .nil, s => .ok [] s
  | .cons e es, s => (ev C e s).bind fun d s => (evL C es s).bind fun ds s => .ok (d :: ds) s
def evS (C : Nat → List D → CR) : Sr → Env → R (List D)
  | .of e, s => (ev C e s).bind fun d s => match iterOf d with
    | some xs => if ownL xs then .bad else .ok xs s
    | none => .bad
  | .rng a, s => (ev C a s).bind fun x s => R.of ((asI x).bind rng1) s
  | .rng3 a b c, s => (ev C a s).bind fun x s => (ev C b s).bind fun y s => (ev C c s).bind fun z s => R.of ((asI x).bind fun i => (asI y).bind fun j => (asI z).bind fun k => rng3 i j k) s
  | .zip a b, s => (ev C a s).bind fun x s => (ev C b s).bind fun y s => match x, y with
    | .lst _ xs, .lst _ ys => if ownL xs || ownL ys then .bad else .ok (zipD xs ys) s
    | .tup xs, .tup ys => if ownL xs || ownL ys then .bad else .ok (zipD xs ys) s
    | _, _ => .bad
  | .enum a, s => (ev C a s).bind fun x s => match x with
    | .lst _ xs => if ownL xs then .bad else .ok (enumD 0 xs) s
    | _ => .bad
end
/-- how often a while may turn -/
def W : Nat := 1073741824
def wloop (t : Env → R D) (b : Env → O) : Nat → Env → O
  | 0, _ => .bad
  | n + 1, s => match t s with
    | .ok x s => match asB x with
      | some true => match b s with
        | .nxt s => wloop t b n s
        | .cnt s => wloop t b n s
        | .brk s => .nxt s
        | o => o
      | some false => .nxt s
      | none => .bad
    | .exc x s => .exc x s
    | .bad => .bad
def floop (f : D → Env → O) : List D → Env → O
  | [], s => .nxt s
  | x :: r, s => match f x s with
    | .nxt s => floop f r s
    | .cnt s => floop f r s
    | .brk s => .nxt s
    | o => o
def R.O {α : Type} (r : R α) (f : α → Env → O) : O :=
  match r with
  | .ok a s => f a s
  | .exc x s => .exc x s
  | .bad => .bad
def exec (C : Nat → List D → CR) : S → Env → O
  | .skip, s => .nxt s
  | .asg i e, s => (ev C e s).O fun d s => .nxt (s.set i (some d))
  | .unp is e, s => (ev C e s).O fun d s => match assignT (.tp is) d s with
    | some s => .nxt s
    | none => .bad
  | .st i k e, s => (ev C e s).O fun y s => match get s i with
    | some _ => (ev C k s).O fun k s => match get s i with
      | some d => match storeAt d k y with
        | some d' => .nxt (s.set i (some d'))
        | none => .bad
      | none => .bad
    | none => .bad
  | .aug i o e, s => match get s i with
    | some _ => (ev C e s).O fun y s => match get s i with
      | some x => match aug2 o x y with
        | some z => .nxt (s.set i (some z))
        | none => .bad
      | none => .bad
    | none => .bad
  | .ex e, s => (ev C e s).O fun _ s => .nxt s
  | .ret e, s => (ev C e s).O fun d s => .ret d s
  | .seq a b, s => match exec C a s with
    | .nxt s => exec C b s
    | o => o
  | .ite c a b, s => (ev C c s).O fun x s => match asB x with
    | some true => exec C a s
    | some false => exec C b s
    | none => .bad
  | .wh c b, s => wloop (ev C c) (exec C b) W s
  | .for tg src b, s => (evS C src s).O fun xs s => floop (fun x s => match assignT tg x s with
      | some s => exec C b s
      | none => .bad) xs s
  | .brk, s => .brk s
  | .cnt, s => .cnt s
/-- of the parameters those that are handed back -/
def mask : List Bool → Nat → Env → Env
  | [], _, _ => []
  | true :: ks, j, s => get s j :: mask ks (j + 1) s
  | false :: ks, j, s => none :: mask ks (j + 1) s
def fin (ks : List Bool) : O → CR
  | .nxt s => .ok .non (mask ks 0 s)
  | .ret d s => .ok d (mask ks 0 s)
  | .exc x s => .exc x (mask ks 0 s)
  | _ => .bad
def run (P : Nat → Option Fn) : Nat → Nat → List D → CR
  | 0, _, _ => .bad
  | k + 1, f, ds => match P f with
    | none => .bad
    | some fn => if ds.length = fn.ks.length then fin fn.ks (exec (run P k) fn.body (ds.map some ++ List.replicate (fn.n - ds.length) none)) else .bad
end Z

set_option Elab.async false
set_option linter.all false
set_option maxRecDepth 100000
/-! How data lie in the heap; what an evaluation may change. -/
namespace Z
open PySem PySem.Spec PyProof.Rows L2

/-! how data lie: F is what never changes, H the heap, the list the owned objects -/
mutual
inductive Rep (K : PySem.W.Frag) (F H : Hp) : V → D → List Addr → Prop
  | non : Rep K F H .non .non []
  | bl (b : Bool) : Rep K F H (.bl b) (.bl b) []
  | int (i : Int) : Rep K F H (.int i) (.int i) []
  | str (s : List Nat) : asc s = true → Rep K F H (.str ⟨s.toArray⟩) (.str s) []
  | tup {a : Addr} {vs : List V} {ds : List D} {fp : List Addr} : SqT K F a vs → Reps K F H vs ds fp → Rep K F H (.ref a) (.tup ds) fp
  | lstF {a : Addr} {vs : List V} {ds : List D} : SqL K F a vs → Reps K F H vs ds [] → Rep K F H (.ref a) (.lst false ds) []
  | lstO {a : Addr} {vs : List V} {ds : List D} {fp : List Addr} : H a = some (.lst vs) → F a = none → Reps K F H vs ds fp → a ∉ fp → Rep K F H (.ref a) (.lst true ds) (a :: fp)
inductive Reps (K : PySem.W.Frag) (F H : Hp) : List V → List D → List Addr → Prop
  | nil : Reps K F H [] [] []
  | cons {v : V} {d : D} {vs : List V} {ds : List D} {fp fq : List Addr} : Rep K F H v d fp → Reps K F H vs ds fq → (∀ a ∈ fp, a ∉ fq) → Reps K F H (v :: vs) (d :: ds) (fp ++ fq)
end

section
variable {K : PySem.W.Frag} {F H F' H' : Hp}
theorem rd_mono {a : Addr} {u : HO} (h : Rd F a u) (m : ∀ a o, F a = some o → F' a = some o) : Rd F' a u := by
  rcases h with h | ⟨o, h⟩
  · exact .inl (m _ _ h)
  · exact .inr ⟨o, m _ _ h⟩
theorem sqL_mono {a : Addr} {xs : List V} (h : SqL K F a xs) (m : ∀ a o, F a = some o → F' a = some o) : SqL K F' a xs := by
  rcases h with h | h
  · exact .inl (rd_mono h m)
  · exact .inr h
theorem sqT_mono {a : Addr} {xs : List V} (h : SqT K F a xs) (m : ∀ a o, F a = some o → F' a = some o) : SqT K F' a xs := by
  rcases h with h | h
  · exact .inl (rd_mono h m)
  · exact .inr h
mutual
theorem Rep.mono (m : ∀ a o, F a = some o → F' a = some o) : ∀ {v : V} {d : D} {fp : List Addr}, Rep K F H v d fp → (∀ a ∈ fp, (∀ o, H a = some o → H' a = some o) ∧ F' a = none) → Rep K F' H' v d fp
  | _, _, _, .non, _ => .non
  | _, _, _, .bl b, _ => .bl b
  | _, _, _, .int i, _ => .int i
  | _, _, _, .str s h, _ => .str s h
  | _, _, _, .tup h hs, k => .tup (sqT_mono h m) (Reps.mono m hs k)
  | _, _, _, .lstF h hs, k => .lstF (sqL_mono h m) (Reps.mono m hs fun _ z => nomatch z)
  | _, _, _, .lstO h hf hs hn, k => .lstO ((k _ (List.mem_cons_self)).1 _ h) (k _ List.mem_cons_self).2 (Reps.mono m hs fun a ha => k a (List.mem_cons_of_mem _ ha)) hn
theorem Reps.mono (m : ∀ a o, F a = some o → F' a = some o) : ∀ {vs : List V} {ds : List D} {fp : List Addr}, Reps K F H vs ds fp → (∀ a ∈ fp, (∀ o, H a = some o → H' a = some o) ∧ F' a = none) → Reps K F' H' vs ds fp
  | _, _, _, .nil, _ => .nil
  | _, _, _, .cons h hs hd, k => .cons (Rep.mono m h fun a ha => k a (List.mem_append_left _ ha)) (Reps.mono m hs fun a ha => k a (List.mem_append_right _ ha)) hd
end
mutual
theorem Rep.frz (m : ∀ a o, F a = some o → F' a = some o) : ∀ {v : V} {d : D} {fp : List Addr}, Rep K F H v d fp → (∀ a ∈ fp, ∀ o, H a = some o → F' a = some o) → Rep K F' H' v d.frz []
  | _, _, _, .non, _ => .non
  | _, _, _, .bl b, _ => .bl b
  | _, _, _, .int i, _ => .int i
  | _, _, _, .str s h, _ => .str s h
  | _, _, _, .tup h hs, k => .tup (sqT_mono h m) (Reps.frz m hs k)
  | _, _, _, .lstF h hs, k => .lstF (sqL_mono h m) (Reps.frz m hs fun _ z => nomatch z)
  | _, _, _, .lstO h hf hs hn, k => .lstF (SqL.of (k _ List.mem_cons_self _ h)) (Reps.frz m hs fun a ha => k a (List.mem_cons_of_mem _ ha))
theorem Reps.frz (m : ∀ a o, F a = some o → F' a = some o) : ∀ {vs : List V} {ds : List D} {fp : List Addr}, Reps K F H vs ds fp → (∀ a ∈ fp, ∀ o, H a = some o → F' a = some o) → Reps K F' H' vs (frzL ds) []
  | _, _, _, .nil, _ => .nil
  | _, _, _, .cons h hs hd, k => Reps.cons (fp := []) (fq := []) (Rep.frz m h fun a ha => k a (List.mem_append_left _ ha)) (Reps.frz m hs fun a ha => k a (List.mem_append_right _ ha)) (fun _ z => nomatch z)
end
mutual
theorem Rep.noown : ∀ {v : V} {d : D} {fp : List Addr}, Rep K F H v d fp → d.own = false → fp = []
  | _, _, _, .non, _ => rfl
  | _, _, _, .bl b, _ => rfl
  | _, _, _, .int i, _ => rfl
  | _, _, _, .str s _, _ => rfl
  | _, _, _, .tup h hs, e => Reps.noown hs (by simpa [D.own] using e)
  | _, _, _, .lstF h hs, e => rfl
  | _, _, _, .lstO h hf hs hn, e => by simp [D.own] at e
theorem Reps.noown : ∀ {vs : List V} {ds : List D} {fp : List Addr}, Reps K F H vs ds fp → ownL ds = false → fp = []
  | _, _, _, .nil, _ => rfl
  | _, _, _, .cons h hs hd, e => by
    simp only [ownL, Bool.or_eq_false_iff] at e
    rw [Rep.noown h e.1, Reps.noown hs e.2]
    rfl
end
/-- an owned object is there, may be written, is not frozen -/
def OwnAt (F H : Hp) (a : Addr) : Prop := F a = none ∧ ∃ o, H a = some o ∧ Mut (some o)
mutual
theorem Rep.own : ∀ {v : V} {d : D} {fp : List Addr}, Rep K F H v d fp → ∀ a ∈ fp, OwnAt F H a
  | _, _, _, .non, _, z => nomatch z
  | _, _, _, .bl b, _, z => nomatch z
  | _, _, _, .int i, _, z => nomatch z
  | _, _, _, .str s _, _, z => nomatch z
  | _, _, _, .tup h hs, a, z => Reps.own hs a z
  | _, _, _, .lstF h hs, _, z => nomatch z
  | _, _, _, .lstO h hf hs hn, a, z => by
    rcases List.mem_cons.mp z with z | z
    · subst z; exact ⟨hf, _, h, trivial⟩
    · exact Reps.own hs a z
theorem Reps.own : ∀ {vs : List V} {ds : List D} {fp : List Addr}, Reps K F H vs ds fp → ∀ a ∈ fp, OwnAt F H a
  | _, _, _, .nil, _, z => nomatch z
  | _, _, _, .cons h hs hd, a, z => by
    rcases List.mem_append.mp z with z | z
    · exact Rep.own h a z
    · exact Reps.own hs a z
end
theorem Reps.len : ∀ {vs : List V} {ds : List D} {fp : List Addr}, Reps K F H vs ds fp → vs.length = ds.length
  | _, _, _, .nil => rfl
  | _, _, _, .cons _ hs _ => by rw [List.length_cons, List.length_cons, hs.len]
/-- without owned objects the heap does not matter -/
theorem Rep.still {v : V} {d : D} (h : Rep K F H v d []) (m : ∀ a o, F a = some o → F' a = some o) : Rep K F' H' v d [] := h.mono m fun _ z => nomatch z
theorem Reps.still {vs : List V} {ds : List D} (h : Reps K F H vs ds []) (m : ∀ a o, F a = some o → F' a = some o) : Reps K F' H' vs ds [] := h.mono m fun _ z => nomatch z
theorem Reps.at_ : ∀ {vs : List V} {ds : List D} {fp : List Addr} {i : Nat} {d : D}, Reps K F H vs ds fp → ds[i]? = some d → ∃ v fq, vs[i]? = some v ∧ Rep K F H v d fq ∧ ∀ a ∈ fq, a ∈ fp
  | _, _, _, _, _, .nil, e => by simp at e
  | _, _, _, 0, _, .cons h hs hd, e => by
    simp at e; subst e
    exact ⟨_, _, rfl, h, fun a z => List.mem_append_left _ z⟩
  | _, _, _, i + 1, _, .cons h hs hd, e => by
    obtain ⟨v, fq, e1, r, m⟩ := Reps.at_ hs (i := i) (by simpa using e)
    exact ⟨v, fq, by simpa using e1, r, fun a z => List.mem_append_right _ (m a z)⟩
theorem Reps.app : ∀ {vs ws : List V} {ds es : List D} {fp fq : List Addr}, Reps K F H vs ds fp → Reps K F H ws es fq → (∀ a ∈ fp, a ∉ fq) → Reps K F H (vs ++ ws) (ds ++ es) (fp ++ fq)
  | _, _, _, _, _, _, .nil, h2, _ => h2
  | _, _, _, _, _, _, .cons (fp := f1) (fq := f2) h hs hd, h2, k => by
    rw [List.append_assoc]
    refine .cons h (Reps.app hs h2 fun a z => k a (List.mem_append_right _ z)) fun a z y => ?_
    rcases List.mem_append.mp y with y | y
    · exact hd a z y
    · exact k a (List.mem_append_left _ z) y
theorem Reps.app0 {vs ws : List V} {ds es : List D} (h : Reps K F H vs ds []) (h2 : Reps K F H ws es []) : Reps K F H (vs ++ ws) (ds ++ es) [] := Reps.app h h2 (fun _ z => nomatch z)
theorem Reps.cons0 {v : V} {d : D} {vs : List V} {ds : List D} (h : Rep K F H v d []) (h2 : Reps K F H vs ds []) : Reps K F H (v :: vs) (d :: ds) [] := Reps.cons (fp := []) (fq := []) h h2 (fun _ z => nomatch z)
theorem Reps.inv0 {v : V} {d : D} {vs : List V} {ds : List D} (h : Reps K F H (v :: vs) (d :: ds) []) : Rep K F H v d [] ∧ Reps K F H vs ds [] := by
  generalize e : ([] : List Addr) = fp at h
  cases h with
  | cons h hs hd =>
    obtain ⟨e1, e2⟩ := List.append_eq_nil_iff.mp e.symm
    subst e1 e2
    exact ⟨h, hs⟩
theorem Reps.drop0 : ∀ {vs : List V} {ds : List D} (n : Nat), Reps K F H vs ds [] → Reps K F H (vs.drop n) (ds.drop n) []
  | _, _, 0, h => h
  | [], [], _ + 1, _ => .nil
  | v :: vs, d :: ds, n + 1, h => Reps.drop0 n h.inv0.2
  | [], d :: ds, _, h => by have := h.len; simp at this
  | v :: vs, [], _, h => by have := h.len; simp at this
theorem Reps.take0 : ∀ {vs : List V} {ds : List D} (n : Nat), Reps K F H vs ds [] → Reps K F H (vs.take n) (ds.take n) []
  | _, _, 0, h => .nil
  | [], [], _ + 1, _ => .nil
  | v :: vs, d :: ds, n + 1, h => Reps.cons0 h.inv0.1 (Reps.take0 n h.inv0.2)
  | [], d :: ds, _, h => by have := h.len; simp at this
  | v :: vs, [], _, h => by have := h.len; simp at this
end
end Z

set_option Elab.async false
set_option linter.all false
set_option maxRecDepth 100000
namespace Z
open PySem PySem.Spec PyProof.Rows L2

abbrev Fps := Nat → List Addr
structure Rel (K : PySem.W.Frag) (F H : Hp) (σ : L2.St) (s : Env) (fps : Fps) : Prop where
  sub : ∀ a o, F a = some o → H a = some o
  len : s.length = σ.length
  rep : ∀ i d, get s i = some d → ∃ v, σ[i]? = some (some v) ∧ Rep K F H v d (fps i)
  nil : ∀ i, get s i = none → fps i = []
  dis : ∀ i j, i ≠ j → ∀ a ∈ fps i, a ∉ fps j
/-- what an evaluation may change: the owned objects of the slots mv -/
structure Stp (mv : List Nat) (F H : Hp) (s : Env) (fps : Fps) (F' H' : Hp) (s' : Env) (fps' : Fps) : Prop where
  f : ∀ a o, F a = some o → F' a = some o
  h : ∀ a o, H a = some o → (∀ j ∈ mv, a ∉ fps j) → H' a = some o
  nf : ∀ a, F' a ≠ none → F a ≠ none ∨ H a = none ∨ ∃ j ∈ mv, a ∈ fps j
  u : ∀ j ∈ mv, ∀ a ∈ fps' j, H a = none ∨ ∃ i ∈ mv, a ∈ fps i
  o : ∀ j, j ∉ mv → get s' j = get s j ∧ fps' j = fps j
  d : ∀ a, H' a = none → H a = none
/-- a result: what it owns lies in the slots vw, or is its own -/
structure Res (K : PySem.W.Frag) (mv vw : List Nat) (H : Hp) (fps : Fps) (F' H' : Hp) (fps' : Fps) (v : V) (d : D) (fp : List Addr) : Prop where
  rep : Rep K F' H' v d fp
  fr : ∀ a ∈ fp, (∃ j ∈ vw, a ∈ fps' j) ∨ ((∀ j, a ∉ fps' j) ∧ (H a = none ∨ ∃ j ∈ mv, a ∈ fps j))
structure Ext (F H F' H' : Hp) : Prop where
  sub : ∀ a o, F' a = some o → H' a = some o
  f : ∀ a o, F a = some o → F' a = some o
  h : ∀ a o, H a = some o → H' a = some o
  nf : ∀ a, F' a ≠ none → F a ≠ none ∨ H a = none

section
variable {K : PySem.W.Frag} {F H F' H' F1 H1 F2 H2 : Hp} {σ : L2.St} {s s' s1 s2 : Env} {fps fps' fps1 fps2 : Fps} {mv mv1 mv2 vw : List Nat} {v : V} {d : D} {fp : List Addr}
theorem Stp.refl : Stp mv F H s fps F H s fps := ⟨fun _ _ e => e, fun _ _ e _ => e, fun _ e => .inl e, fun j hj a ha => .inr ⟨j, hj, ha⟩, fun _ _ => ⟨rfl, rfl⟩, fun _ e => e⟩
theorem Stp.back (A : Stp mv1 F H s fps F1 H1 s1 fps1) {j : Nat} {a : Addr} (ha : a ∈ fps1 j) : H a = none ∨ (∃ i ∈ mv1, a ∈ fps i) ∨ (j ∉ mv1 ∧ a ∈ fps j) := by
  by_cases hj : j ∈ mv1
  · rcases A.u j hj a ha with q | q
    · exact .inl q
    · exact .inr (.inl q)
  · rw [(A.o j hj).2] at ha
    exact .inr (.inr ⟨hj, ha⟩)
theorem Stp.trans (A : Stp mv1 F H s fps F1 H1 s1 fps1) (B : Stp mv2 F1 H1 s1 fps1 F2 H2 s2 fps2) : Stp (mv1 ++ mv2) F H s fps F2 H2 s2 fps2 where
  f := fun a o e => B.f a o (A.f a o e)
  h := fun a o e k => B.h a o (A.h a o e fun j hj => k j (List.mem_append_left _ hj)) fun j hj ha => by
    rcases A.back ha with q | ⟨i, hi, q⟩ | ⟨_, q⟩
    · rw [e] at q; cases q
    · exact k i (List.mem_append_left _ hi) q
    · exact k j (List.mem_append_right _ hj) q
  nf := fun a e => by
    rcases B.nf a e with q | q | ⟨j, hj, q⟩
    · rcases A.nf a q with q | q | ⟨j, hj, q⟩
      · exact .inl q
      · exact .inr (.inl q)
      · exact .inr (.inr ⟨j, List.mem_append_left _ hj, q⟩)
    · exact .inr (.inl (A.d a q))
    · rcases A.back q with q | ⟨i, hi, q⟩ | ⟨_, q⟩
      · exact .inr (.inl q)
      · exact .inr (.inr ⟨i, List.mem_append_left _ hi, q⟩)
      · exact .inr (.inr ⟨j, List.mem_append_right _ hj, q⟩)
  u := fun j hj a ha => by
    rcases B.back ha with q | ⟨i, hi, q⟩ | ⟨hn, q⟩
    · exact .inl (A.d a q)
    · rcases A.back q with q | ⟨k, hk, q⟩ | ⟨_, q⟩
      · exact .inl q
      · exact .inr ⟨k, List.mem_append_left _ hk, q⟩
      · exact .inr ⟨i, List.mem_append_right _ hi, q⟩
    · rcases A.back q with q | ⟨k, hk, q⟩ | ⟨_, q⟩
      · exact .inl q
      · exact .inr ⟨k, List.mem_append_left _ hk, q⟩
      · exact .inr ⟨j, hj, q⟩
  o := fun j hj => by
    have h1 := A.o j fun z => hj (List.mem_append_left _ z)
    have h2 := B.o j fun z => hj (List.mem_append_right _ z)
    exact ⟨h2.1.trans h1.1, h2.2.trans h1.2⟩
  d := fun a e => A.d a (B.d a e)
theorem Stp.weak (A : Stp mv1 F H s fps F1 H1 s1 fps1) (m : ∀ j ∈ mv1, j ∈ mv2) : Stp mv2 F H s fps F1 H1 s1 fps1 where
  f := A.f
  h := fun a o e k => A.h a o e fun j hj => k j (m j hj)
  nf := fun a e => by
    rcases A.nf a e with q | q | ⟨j, hj, q⟩
    · exact .inl q
    · exact .inr (.inl q)
    · exact .inr (.inr ⟨j, m j hj, q⟩)
  u := fun j hj a ha => by
    rcases A.back ha with q | ⟨i, hi, q⟩ | ⟨_, q⟩
    · exact .inl q
    · exact .inr ⟨i, m i hi, q⟩
    · exact .inr ⟨j, hj, q⟩
  o := fun j hj => A.o j fun z => hj (m j z)
  d := A.d
/-- no slot vw among mv -/
def disj (vw mv : List Nat) : Bool := vw.all fun i => !mv.contains i
theorem disj_not {vw mv : List Nat} (h : disj vw mv = true) {i : Nat} (hi : i ∈ vw) : i ∉ mv := by
  have q := List.all_eq_true.mp h i hi
  simpa using q
/-- what a later evaluation leaves of a result -/
theorem Res.on (R : Rel K F1 H1 σ s1 fps1) (r : Res K mv1 vw H fps F1 H1 fps1 v d fp) (B : Stp mv2 F1 H1 s1 fps1 F2 H2 s2 fps2) (hk : disj vw mv2 = true ∨ d.own = false) : Res K (mv1 ++ mv2) vw H fps F2 H2 fps2 v d fp := by
  rcases hk with hk | hk
  · have apart : ∀ a ∈ fp, ∀ i ∈ mv2, a ∉ fps1 i := fun a ha i hi z => by
      rcases r.fr a ha with ⟨j, hj, q⟩ | ⟨q, _⟩
      · exact R.dis j i (fun e => disj_not hk hj (e ▸ hi)) a q z
      · exact q i z
    have keep : ∀ a ∈ fp, (∀ o, H1 a = some o → H2 a = some o) ∧ F2 a = none := fun a ha => by
      obtain ⟨hf, o, ho, _⟩ := r.rep.own a ha
      refine ⟨fun o e => B.h a o e (apart a ha), ?_⟩
      cases e : F2 a with
      | none => rfl
      | some w =>
        rcases B.nf a (by rw [e]; exact Option.some_ne_none _) with q | q | ⟨j, hj, q⟩
        · exact absurd hf q
        · rw [ho] at q; cases q
        · exact absurd q (apart a ha j hj)
    refine ⟨r.rep.mono B.f keep, fun a ha => ?_⟩
    rcases r.fr a ha with ⟨j, hj, q⟩ | ⟨q, w⟩
    · refine .inl ⟨j, hj, ?_⟩
      rw [(B.o j (disj_not hk hj)).2]
      exact q
    · refine .inr ⟨fun j z => ?_, ?_⟩
      · rcases B.back z with y | ⟨i, hi, y⟩ | ⟨_, y⟩
        · obtain ⟨_, o, ho, _⟩ := r.rep.own a ha
          rw [ho] at y; cases y
        · exact q i y
        · exact q j y
      · rcases w with w | ⟨j, hj, w⟩
        · exact .inl w
        · exact .inr ⟨j, List.mem_append_left _ hj, w⟩
  · have e := r.rep.noown hk
    subst e
    exact ⟨r.rep.still B.f, fun a z => nomatch z⟩
theorem Ext.refl (h : ∀ a o, F a = some o → H a = some o) : Ext F H F H := ⟨h, fun _ _ e => e, fun _ _ e => e, fun _ e => .inl e⟩
theorem Ext.own {p : Addr} {o : HO} (h : ∀ a o, F a = some o → H a = some o) (hp : H p = none) : Ext F H F (upd H p o) := by
  refine ⟨fun a u e => ?_, fun _ _ e => e, fun a u e => ?_, fun _ e => .inl e⟩
  · rw [upd_ne (ne_of_none (h a u e) hp)]; exact h a u e
  · rw [upd_ne (ne_of_none e hp)]; exact e
theorem Ext.frz {p : Addr} {o : HO} (h : ∀ a o, F a = some o → H a = some o) (hp : H p = none) : Ext F H (upd F p o) (upd H p o) := by
  refine ⟨fun a u e => ?_, fun a u e => ?_, fun a u e => ?_, fun a e => ?_⟩
  · by_cases q : a = p
    · subst q; rw [upd_same] at e ⊢; exact e
    · rw [upd_ne q] at e ⊢; exact h a u e
  · rw [upd_ne (ne_of_none (h a u e) hp)]; exact e
  · rw [upd_ne (ne_of_none e hp)]; exact e
  · by_cases q : a = p
    · subst q; exact .inr hp
    · rw [upd_ne q] at e; exact .inl e
theorem Ext.trans (A : Ext F H F1 H1) (B : Ext F1 H1 F2 H2) : Ext F H F2 H2 := ⟨B.sub, fun a o e => B.f a o (A.f a o e), fun a o e => B.h a o (A.h a o e), fun a e => by
  rcases B.nf a e with q | q
  · exact A.nf a q
  · refine .inr ?_
    cases w : H a with
    | none => rfl
    | some o => rw [A.h a o w] at q; cases q⟩
theorem Ext.stp (x : Ext F H F' H') : Stp mv F H s fps F' H' s fps := ⟨x.f, fun a o e _ => x.h a o e, fun a e => by
  rcases x.nf a e with q | q
  · exact .inl q
  · exact .inr (.inl q), fun j hj a ha => .inr ⟨j, hj, ha⟩, fun _ _ => ⟨rfl, rfl⟩, fun a e => by
    cases w : H a with
    | none => rfl
    | some o => rw [x.h a o w] at e; cases e⟩
theorem Ext.keep (x : Ext F H F' H') {a : Addr} (h : OwnAt F H a) : (∀ o, H a = some o → H' a = some o) ∧ F' a = none := by
  obtain ⟨hf, o, ho, _⟩ := h
  refine ⟨fun o e => x.h a o e, ?_⟩
  cases e : F' a with
  | none => rfl
  | some w =>
    rcases x.nf a (by rw [e]; exact Option.some_ne_none _) with q | q
    · exact absurd hf q
    · rw [ho] at q; cases q
theorem Rep.ext (r : Rep K F H v d fp) (x : Ext F H F' H') : Rep K F' H' v d fp := r.mono x.f fun a ha => x.keep (r.own a ha)
theorem Reps.ext {vs : List V} {ds : List D} (r : Reps K F H vs ds fp) (x : Ext F H F' H') : Reps K F' H' vs ds fp := r.mono x.f fun a ha => x.keep (r.own a ha)
theorem Rel.ext (R : Rel K F H σ s fps) (x : Ext F H F' H') : Rel K F' H' σ s fps := ⟨x.sub, R.len, fun i d e => by
  obtain ⟨v, e1, r⟩ := R.rep i d e
  exact ⟨v, e1, r.ext x⟩, R.nil, R.dis⟩
theorem Rel.there (R : Rel K F H σ s fps) {i : Nat} {a : Addr} (ha : a ∈ fps i) : OwnAt F H a := by
  cases e : get s i with
  | none => rw [R.nil i e] at ha; cases ha
  | some d =>
    obtain ⟨v, _, r⟩ := R.rep i d e
    exact r.own a ha
theorem none_of_ext (x : Ext F H F' H') {a : Addr} (h : H' a = none) : H a = none := by
  cases w : H a with
  | none => rfl
  | some o => rw [x.h a o w] at h; cases h
end

/-! ### the readings -/
/-- e does what f says: mv the slots that it may change, vw the slots that its value may lie in -/
def tE (K : PySem.W.Frag) (mv vw : List Nat) (f : Env → R D) : TE := fun σ H Q => ∃ F s fps, Rel K F H σ s fps ∧ match f s with
  | .ok d s' => ∀ v H' F' fps' fp, Rel K F' H' σ s' fps' → Stp mv F H s fps F' H' s' fps' → Res K mv vw H fps F' H' fps' v d fp → Q v H'
  | _ => False
def tT (K : PySem.W.Frag) (mv : List Nat) (f : Env → R D) : TT := fun σ H Q => ∃ F s fps, Rel K F H σ s fps ∧ match f s with
  | .ok d s' => match asB d with
    | some b => ∀ H' F' fps', Rel K F' H' σ s' fps' → Stp mv F H s fps F' H' s' fps' → Q b H'
    | none => False
  | _ => False
theorem pe_imp {X : Cx} {e : Expr} {t t' : TE} (h : PE X e t) (i : ∀ σ H Q, t' σ H Q → t σ H Q) : PE X e t' := ⟨fun pins s σ H Q I q => h.run pins s σ H Q I (i _ _ _ q)⟩
theorem pt_imp {X : Cx} {e : Expr} {t t' : TT} (h : PT X e t) (i : ∀ σ H Q, t' σ H Q → t σ H Q) : PT X e t' := ⟨fun pins s σ H Q I q => h.run pins s σ H Q I (i _ _ _ q)⟩
theorem pw_imp {X : Cx} {e : Expr} {t t' : TT} (h : PW X e t) (i : ∀ σ H Q, t' σ H Q → t σ H Q) : PW X e t' := ⟨fun w pins s σ H Q I q => h.run w pins s σ H Q I (i _ _ _ q)⟩
theorem tE_weak {K : PySem.W.Frag} {mv vw mv' : List Nat} {f : Env → R D} {σ : L2.St} {H : Hp} {Q : VK} (m : ∀ j ∈ mv, j ∈ mv') (h : tE K mv' vw f σ H Q) : tE K mv vw f σ H Q := by
  obtain ⟨F, s, fps, R, h⟩ := h
  try dsimp only at h
  refine ⟨F, s, fps, R, ?_⟩
  cases e : f s with
  | ok d s' =>
    rw [e] at h
    exact fun v H' F' fps' fp R' st rs => h v H' F' fps' fp R' (st.weak m) ⟨rs.rep, fun a ha => by
      rcases rs.fr a ha with q | ⟨q, w⟩
      · exact .inl q
      · refine .inr ⟨q, ?_⟩
        rcases w with w | ⟨j, hj, w⟩
        · exact .inl w
        · exact .inr ⟨j, m j hj, w⟩⟩
  | exc x s' => rw [e] at h; exact h
  | bad => rw [e] at h; exact h

/-- a result by values: what it owns is new, or (vf) lies in the first operand -/
def Give (K : PySem.W.Frag) (vf : Bool) (fp1 : List Addr) (F H : Hp) (d : D) (Q : VK) : Prop :=
  ∀ v H' F' fp, Ext F H F' H' → Rep K F' H' v d fp → (∀ a ∈ fp, H a = none ∨ (vf = true ∧ a ∈ fp1)) → Q v H'
def rU (K : PySem.W.Frag) (g : D → Option D) (vf : Bool) : V → Hp → VK → Prop := fun x H Q => ∃ F d1 fp1 d, (∀ a o, F a = some o → H a = some o) ∧ Rep K F H x d1 fp1 ∧ g d1 = some d ∧ Give K vf fp1 F H d Q
def rO (K : PySem.W.Frag) (g : D → D → Option D) (vf : Bool) : R2 := fun x y H Q => ∃ F d1 fp1 d2 fp2 d, (∀ a o, F a = some o → H a = some o) ∧ Rep K F H x d1 fp1 ∧ Rep K F H y d2 fp2 ∧ g d1 d2 = some d ∧ Give K vf fp1 F H d Q
def rO3 (K : PySem.W.Frag) (g : D → D → D → Option D) (vf : Bool) : V → V → V → Hp → VK → Prop := fun x y z H Q => ∃ F d1 fp1 d2 fp2 d3 fp3 d, (∀ a o, F a = some o → H a = some o) ∧ Rep K F H x d1 fp1 ∧ Rep K F H y d2 fp2 ∧ Rep K F H z d3 fp3 ∧
  g d1 d2 d3 = some d ∧ Give K vf fp1 F H d Q
def vwf (vf : Bool) (vw : List Nat) : List Nat := if vf then vw else []
section
variable {K : PySem.W.Frag} {F0 H0 F H F' H' : Hp} {σ : L2.St} {s s0 : Env} {fps0 fps : Fps} {mv mva mvb mvc vwa vwb vwc : List Nat} {v x : V} {d d1 : D} {fp fp1 : List Addr} {vf : Bool} {Q : VK} {fa fb fc : Env → R D}
theorem give_res (R : Rel K F H σ s fps) (st : Stp mv F0 H0 s0 fps0 F H s fps) (rs : Res K mv vwa H0 fps0 F H fps x d1 fp1)
    (h : ∀ v H' F' fps' fp, Rel K F' H' σ s fps' → Stp mv F0 H0 s0 fps0 F' H' s fps' → Res K mv (vwf vf vwa) H0 fps0 F' H' fps' v d fp → Q v H') : Give K vf fp1 F H d Q := fun v H' F' fp e r k => by
  have st2 := st.trans (e.stp (mv := []) (s := s) (fps := fps))
  rw [List.append_nil] at st2
  refine h v H' F' fps fp (R.ext e) st2 ⟨r, fun a ha => ?_⟩
  rcases k a ha with q | ⟨hv, q⟩
  · refine .inr ⟨fun j z => ?_, .inl (st.d a q)⟩
    obtain ⟨_, o, ho, _⟩ := R.there z
    rw [q] at ho; cases ho
  · rcases rs.fr a q with y | y
    · refine .inl ?_
      unfold vwf
      rw [if_pos hv]
      exact y
    · exact .inr y
theorem Res.later {H1 : Hp} {F1 : Hp} {fps1 : Fps} {s1 : Env} {mv1 mv2 vw : List Nat} (st : Stp mv1 F0 H0 s0 fps0 F1 H1 s1 fps1) (rs : Res K mv2 vw H1 fps1 F H fps v d fp) : Res K (mv1 ++ mv2) vw H0 fps0 F H fps v d fp := ⟨rs.rep, fun a ha => by
  rcases rs.fr a ha with q | ⟨q, w⟩
  · exact .inl q
  · refine .inr ⟨q, ?_⟩
    rcases w with w | ⟨j, hj, w⟩
    · exact .inl (st.d a w)
    · rcases st.back w with y | ⟨i, hi, y⟩ | ⟨_, y⟩
      · exact .inl y
      · exact .inr ⟨i, List.mem_append_left _ hi, y⟩
      · exact .inr ⟨j, List.mem_append_right _ hj, y⟩⟩
theorem tE_un {g : D → Option D} (h : tE K mva (vwf vf vwa) (fun s => (fa s).bind fun x s => R.of (g x) s) σ H Q) : tUn (rU K g vf) (tE K mva vwa fa) σ H Q := by
  obtain ⟨F, s, fps, R, h⟩ := h
  try dsimp only at h
  refine ⟨F, s, fps, R, ?_⟩
  cases ea : fa s with
  | exc x s' => rw [ea] at h; exact h
  | bad => rw [ea] at h; exact h
  | ok d1 s1 =>
    rw [ea] at h
    refine fun x H1 F1 fps1 fp1 R1 st1 rs1 => ?_
    simp only [bind_ok] at h
    cases eg : g d1 with
    | none => rw [eg] at h; exact h.elim
    | some d =>
      rw [eg] at h
      exact ⟨F1, d1, fp1, d, R1.sub, rs1.rep, eg, give_res R1 st1 rs1 h⟩
theorem tE_two {k : Bool} {g : D → D → Option D} (hk : k = true ∨ disj vwa mvb = true)
    (h : tE K (mva ++ mvb) (vwf vf vwa) (fun s => (fa s).bind fun x s => (fb s).bind fun y s => if k && x.own then .bad else R.of (g x y) s) σ H Q) : tOp (rO K g vf) (tE K mva vwa fa) (tE K mvb vwb fb) σ H Q := by
  obtain ⟨F, s, fps, R, h⟩ := h
  try dsimp only at h
  refine ⟨F, s, fps, R, ?_⟩
  cases ea : fa s with
  | exc x s' => rw [ea] at h; exact h
  | bad => rw [ea] at h; exact h
  | ok d1 s1 =>
    rw [ea] at h
    refine fun x H1 F1 fps1 fp1 R1 st1 rs1 => ⟨F1, s1, fps1, R1, ?_⟩
    simp only [bind_ok] at h
    cases eb : fb s1 with
    | exc x s' => rw [eb] at h; exact h
    | bad => rw [eb] at h; exact h
    | ok d2 s2 =>
      rw [eb] at h
      simp only [bind_ok] at h
      refine fun y H2 F2 fps2 fp2 R2 st2 rs2 => ?_
      by_cases hc : (k && d1.own) = true
      · rw [if_pos hc] at h; exact h.elim
      · rw [if_neg hc] at h
        cases eg : g d1 d2 with
        | none => rw [eg] at h; exact h.elim
        | some d =>
          rw [eg] at h
          have rs1' := rs1.on R1 st2 (by
            rcases hk with hk | hk
            · subst hk
              refine .inr ?_
              cases q : d1.own with
              | false => rfl
              | true => rw [q] at hc; exact absurd rfl hc
            · exact .inl hk)
          exact ⟨F2, d1, fp1, d2, fp2, d, R2.sub, rs1'.rep, rs2.rep, eg, give_res R2 (st1.trans st2) rs1' h⟩
end
end Z

set_option Elab.async false
set_option linter.all false
set_option maxRecDepth 100000
namespace Z
open PySem PySem.Spec PyProof.Rows L2

theorem sl_eq : sizeLine = SL := by rw [sizeLine_eq]; rfl
section
variable {K : PySem.W.Frag} {F H : Hp} {v : V} {d : D} {fp : List Addr}
theorem rep_int {i : Int} (h : Rep K F H v (.int i) fp) : v = .int i ∧ fp = [] := by cases h; exact ⟨rfl, rfl⟩
theorem rep_bl {b : Bool} (h : Rep K F H v (.bl b) fp) : v = .bl b ∧ fp = [] := by cases h; exact ⟨rfl, rfl⟩
theorem rep_non (h : Rep K F H v .non fp) : v = .non ∧ fp = [] := by cases h; exact ⟨rfl, rfl⟩
theorem rep_str {s : List Nat} (h : Rep K F H v (.str s) fp) : v = .str (SX.S s) ∧ fp = [] ∧ asc s = true := by cases h; exact ⟨rfl, rfl, by assumption⟩
theorem rep_tup {ds : List D} (m : ∀ a o, F a = some o → H a = some o) (h : Rep K F H v (.tup ds) fp) : ∃ a vs, v = .ref a ∧ SqT K F a vs ∧ SqT K H a vs ∧ Reps K F H vs ds fp := by
  cases h with
  | tup h hs => exact ⟨_, _, rfl, h, sqT_mono h m, hs⟩
theorem rep_lst {o : Bool} {ds : List D} (m : ∀ a o, F a = some o → H a = some o) (h : Rep K F H v (.lst o ds) fp) : ∃ a vs fq, v = .ref a ∧ SqL K H a vs ∧ Reps K F H vs ds fq ∧ ∀ a ∈ fq, a ∈ fp := by
  cases h with
  | lstF h hs => exact ⟨_, _, [], rfl, sqL_mono h m, hs, fun _ z => z⟩
  | lstO h hf hs hn => exact ⟨_, _, _, rfl, SqL.of h, hs, fun a z => List.mem_cons_of_mem _ z⟩
theorem reps_strs : ∀ {vs : List V} {ss : List (List Nat)} {fp : List Addr}, Reps K F H vs (ss.map .str) fp → vs = (ss.map SX.S).map V.str ∧ fp = [] ∧ ∀ s ∈ ss, asc s = true
  | _, [], _, h => by cases h; exact ⟨rfl, rfl, fun _ z => nomatch z⟩
  | _, s :: ss, _, h => by
    cases h with
    | cons h hs hd =>
      obtain ⟨e1, e2, e5⟩ := rep_str h
      obtain ⟨e3, e4, e6⟩ := reps_strs hs
      subst e1 e2 e3 e4
      exact ⟨rfl, rfl, fun x z => by
        rcases List.mem_cons.mp z with z | z
        · rw [z]; exact e5
        · exact e6 x z⟩
theorem strs_reps : ∀ (ss : List (List Nat)), (∀ s ∈ ss, asc s = true) → Reps K F H ((ss.map SX.S).map V.str) (ss.map .str) []
  | [], _ => .nil
  | s :: ss, h => Reps.cons0 (.str s (h s List.mem_cons_self)) (strs_reps ss fun x z => h x (List.mem_cons_of_mem _ z))
theorem reps_bls : ∀ {vs : List V} {ds : List D} {bs : List Bool} {fp : List Addr}, Reps K F H vs ds fp → truths ds = some bs → vs = bs.map V.bl
  | _, [], bs, _, h, e => by
    cases h
    cases e
    rfl
  | _, .bl b :: ds, bs, _, h, e => by
    cases h with
    | cons h hs hd =>
      obtain ⟨e1, e2⟩ := rep_bl h
      simp only [truths, Option.map_eq_some_iff] at e
      obtain ⟨cs, e3, e4⟩ := e
      subst e1 e4
      rw [reps_bls hs e3]
      rfl
  | _, .non :: _, _, _, _, e => by simp [truths] at e
  | _, .int _ :: _, _, _, _, e => by simp [truths] at e
  | _, .str _ :: _, _, _, _, e => by simp [truths] at e
  | _, .tup _ :: _, _, _, _, e => by simp [truths] at e
  | _, .lst _ _ :: _, _, _, _, e => by simp [truths] at e
  | _, .dct _ _ :: _, _, _, _, e => by simp [truths] at e
  | _, .set _ _ :: _, _, _, _, e => by simp [truths] at e
  | _, .ins _ _ _ :: _, _, _, _, e => by simp [truths] at e
theorem strsOf_eq : ∀ {ds : List D} {ss : List (List Nat)}, strsOf ds = some ss → ds = ss.map .str
  | [], _, e => by cases e; rfl
  | .str s :: ds, ss, e => by
    simp only [strsOf, Option.map_eq_some_iff] at e
    obtain ⟨r, e1, e2⟩ := e
    subst e2
    rw [strsOf_eq e1]
    rfl
  | .non :: _, _, e => by simp [strsOf] at e
  | .bl _ :: _, _, e => by simp [strsOf] at e
  | .int _ :: _, _, e => by simp [strsOf] at e
  | .tup _ :: _, _, e => by simp [strsOf] at e
  | .lst _ _ :: _, _, e => by simp [strsOf] at e
  | .dct _ _ :: _, _, e => by simp [strsOf] at e
  | .set _ _ :: _, _, e => by simp [strsOf] at e
  | .ins _ _ _ :: _, _, e => by simp [strsOf] at e
end

/-! ### == -/
mutual
def D.py : D → PyData
  | .non => .none
  | .bl b => .bool b
  | .int i => .int i
  | .str s => .str (SX.S s)
  | .tup xs => .tuple (pyL xs)
  | .lst _ xs => .list (pyL xs)
  | .dct _ _ => .dict []
  | .set _ _ => .dict []
  | .ins _ _ _ => .dict []
def pyL : List D → List PyData
  | [] => []
  | x :: r => x.py :: pyL r
end
mutual
theorem py_dep : ∀ d : D, d.dep ≤ 900 → d.py.depth = d.dep
  | .non, _ => by simp [D.py, D.dep, PyData.depth]
  | .bl _, _ => by simp [D.py, D.dep, PyData.depth]
  | .int _, _ => by simp [D.py, D.dep, PyData.depth]
  | .str _, _ => by simp [D.py, D.dep, PyData.depth]
  | .tup xs, h => by
    have q := py_depL xs (by simp only [D.dep] at h; omega)
    simp only [D.py, D.dep, PyData.depth, q]
  | .lst _ xs, h => by
    have q := py_depL xs (by simp only [D.dep] at h; omega)
    simp only [D.py, D.dep, PyData.depth, q]
  | .dct _ _, h => by simp [D.dep] at h
  | .set _ _, h => by simp [D.dep] at h
  | .ins _ _ _, h => by simp [D.dep] at h
theorem py_depL : ∀ ds : List D, depL ds ≤ 900 → PyData.depthAll (pyL ds) = depL ds
  | [], _ => by simp [pyL, depL, PyData.depthAll]
  | d :: ds, h => by
    have h1 := py_dep d (by simp only [depL] at h; omega)
    have h2 := py_depL ds (by simp only [depL] at h; omega)
    simp only [pyL, depL, PyData.depthAll, h1, h2]
end
theorem asc_ok {s : List Nat} (h : asc s = true) : PyData.strOk (SX.S s) = true := by
  unfold PyData.strOk
  rw [← Array.all_toList]
  refine List.all_eq_true.mpr fun c hc => ?_
  have q := of_decide_eq_true (List.all_eq_true.mp h c hc)
  exact decide_eq_true (by omega)
section
variable {K : PySem.W.Frag} {F H : Hp}
mutual
theorem Rep.lay : ∀ {v : V} {d : D} {fp : List Addr}, Rep K F H v d fp → d.dep ≤ 900 → d.py.canLay0 = true
  | _, _, _, .non, _ => by simp [D.py, PyData.canLay0]
  | _, _, _, .bl b, _ => by simp [D.py, PyData.canLay0]
  | _, _, _, .int i, _ => by simp [D.py, PyData.canLay0]
  | _, _, _, .str s h, _ => by simp only [D.py, PyData.canLay0]; exact asc_ok h
  | _, _, _, .tup h hs, e => by simp only [D.py, PyData.canLay0]; exact Reps.lay hs (by simp only [D.dep] at e; omega)
  | _, _, _, .lstF h hs, e => by simp only [D.py, PyData.canLay0]; exact Reps.lay hs (by simp only [D.dep] at e; omega)
  | _, _, _, .lstO h hf hs hn, e => by simp only [D.py, PyData.canLay0]; exact Reps.lay hs (by simp only [D.dep] at e; omega)
theorem Reps.lay : ∀ {vs : List V} {ds : List D} {fp : List Addr}, Reps K F H vs ds fp → depL ds ≤ 900 → PyData.canLayAll0 (pyL ds) = true
  | _, _, _, .nil, _ => by simp [pyL, PyData.canLayAll0]
  | _, _, _, .cons h hs hd, e => by
    simp only [depL] at e
    simp only [pyL, PyData.canLayAll0, Rep.lay h (by omega), Reps.lay hs (by omega), Bool.and_self]
end
theorem Rep.shaped {v : V} {d : D} {fp : List Addr} (r : Rep K F H v d fp) (h : d.dep ≤ 64) : SeqAt.shaped d.py = true := by
  unfold SeqAt.shaped
  rw [r.lay (by omega), py_dep d (by omega), decide_eq_true h]
  rfl
end
mutual
theorem py_eqv : ∀ x y : D, x.dep ≤ 900 → y.dep ≤ 900 → PyData.eqv x.py y.py = x.peq y
  | .non, y, _, h => by cases y <;> first | rfl | (simp [D.dep] at h; done) | simp [D.py, D.peq, PyData.eqv]
  | .bl b, y, _, h => by cases y <;> first | rfl | (simp [D.dep] at h; done) | simp [D.py, D.peq, PyData.eqv, b2i]
  | .int i, y, _, h => by cases y <;> first | rfl | (simp [D.dep] at h; done) | simp [D.py, D.peq, PyData.eqv, b2i]
  | .str s, y, _, h => by
    cases y <;> first | rfl | (simp [D.dep] at h; done) | skip
    · simp only [D.py, D.peq, PyData.eqv]; exact SX.S_beq _ _
  | .tup xs, y, h1, h => by
    cases y with
    | tup ys =>
      simp only [D.py, D.peq, PyData.eqv]
      exact py_eqvL xs ys (by simp only [D.dep] at h1; omega) (by simp only [D.dep] at h; omega)
    | dct _ _ => simp [D.dep] at h
    | set _ _ => simp [D.dep] at h
    | ins _ _ _ => simp [D.dep] at h
    | _ => simp [D.py, D.peq, PyData.eqv]
  | .lst _ xs, y, h1, h => by
    cases y with
    | lst _ ys =>
      simp only [D.py, D.peq, PyData.eqv]
      exact py_eqvL xs ys (by simp only [D.dep] at h1; omega) (by simp only [D.dep] at h; omega)
    | dct _ _ => simp [D.dep] at h
    | set _ _ => simp [D.dep] at h
    | ins _ _ _ => simp [D.dep] at h
    | _ => simp [D.py, D.peq, PyData.eqv]
  | .dct _ _, _, h, _ => by simp [D.dep] at h
  | .set _ _, _, h, _ => by simp [D.dep] at h
  | .ins _ _ _, _, h, _ => by simp [D.dep] at h
theorem py_eqvL : ∀ xs ys : List D, depL xs ≤ 900 → depL ys ≤ 900 → PyData.eqvAll (pyL xs) (pyL ys) = peqL xs ys
  | [], [], _, _ => by simp [pyL, peqL, PyData.eqvAll]
  | [], _ :: _, _, _ => by simp [pyL, peqL, PyData.eqvAll]
  | _ :: _, [], _, _ => by simp [pyL, peqL, PyData.eqvAll]
  | x :: xs, y :: ys, h1, h2 => by
    simp only [pyL, peqL, PyData.eqvAll]
    simp only [depL] at h1 h2
    rw [py_eqv x y (by omega) (by omega), py_eqvL xs ys (by omega) (by omega)]
end
section
variable {K : PySem.W.Frag} {F H : Hp}
mutual
theorem Rep.dp (m : ∀ a o, F a = some o → H a = some o) : ∀ {v : V} {d : D} {fp : List Addr}, Rep K F H v d fp → d.dep ≤ 900 → Dp K H v d.py
  | _, _, _, .non, _ => .non
  | _, _, _, .bl b, _ => .bl b
  | _, _, _, .int i, _ => .int i
  | _, _, _, .str s _, _ => .str _
  | _, _, _, .tup h hs, e => .tup (sqT_mono h m) (Reps.dp m hs (by simp only [D.dep] at e; omega))
  | _, _, _, .lstF h hs, e => .lst (sqL_mono h m) (Reps.dp m hs (by simp only [D.dep] at e; omega))
  | _, _, _, .lstO h hf hs hn, e => .lst (SqL.of h) (Reps.dp m hs (by simp only [D.dep] at e; omega))
theorem Reps.dp (m : ∀ a o, F a = some o → H a = some o) : ∀ {vs : List V} {ds : List D} {fp : List Addr}, Reps K F H vs ds fp → depL ds ≤ 900 → DpAll K H vs (pyL ds)
  | _, _, _, .nil, _ => .nil
  | _, _, _, .cons h hs hd, e => by
    simp only [depL] at e
    exact .cons (Rep.dp m h (by omega)) (Reps.dp m hs (by omega))
end
theorem dep_le64 : ∀ {ds : List D} {n : Nat}, depL ds ≤ n → ∀ d ∈ ds, d.dep ≤ n
  | [], _, _, _, z => nomatch z
  | d :: ds, n, h, e, z => by
    simp only [depL] at h
    rcases List.mem_cons.mp z with z | z
    · subst z; omega
    · exact dep_le64 (by omega) e z
theorem any_py : ∀ {ds : List D} {x : D}, depL ds ≤ 900 → x.dep ≤ 900 → ((pyL ds).any fun z => PyData.eqv z x.py) = ds.any fun z => z.peq x
  | [], _, _, _ => rfl
  | d :: ds, x, h, h2 => by
    simp only [depL] at h
    simp only [pyL, List.any_cons]
    rw [any_py (by omega) h2, py_eqv d x (by omega) h2]
end
end Z

set_option Elab.async false
set_option linter.all false
set_option maxRecDepth 100000
namespace Z
open PySem PySem.Spec PyProof.Rows L2

section
variable {K : PySem.W.Frag} {F H : Hp} {fp1 : List Addr} {vf : Bool} {d : D} {Q : VK}
theorem give_int {i : Int} (m : ∀ a o, F a = some o → H a = some o) (q : Give K vf fp1 F H (.int i) Q) : Q (.int i) H := q _ _ _ _ (Ext.refl m) (.int i) fun _ z => nomatch z
theorem give_bl {b : Bool} (m : ∀ a o, F a = some o → H a = some o) (q : Give K vf fp1 F H (.bl b) Q) : Q (.bl b) H := q _ _ _ _ (Ext.refl m) (.bl b) fun _ z => nomatch z
theorem give_str {s : List Nat} (m : ∀ a o, F a = some o → H a = some o) (h : asc s = true) (q : Give K vf fp1 F H (.str s) Q) : Q (.str (SX.S s)) H := q _ _ _ _ (Ext.refl m) (.str s h) fun _ z => nomatch z
theorem give_same {v : V} (m : ∀ a o, F a = some o → H a = some o) (r : Rep K F H v d []) (q : Give K vf fp1 F H d Q) : Q v H := q _ _ _ _ (Ext.refl m) r fun _ z => nomatch z
/-- a new list of things that own nothing -/
theorem give_lst {p : Addr} {vs : List V} {ds : List D} (m : ∀ a o, F a = some o → H a = some o) (hp : H p = none) (r : Reps K F H vs ds []) (q : Give K vf fp1 F H (.lst true ds) Q) : Q (.ref p) (upd H p (.lst vs)) := by
  have hf : F p = none := by
    cases e : F p with
    | none => rfl
    | some o => rw [m _ _ e] at hp; cases hp
  refine q _ _ _ _ (Ext.own m hp) (.lstO (fp := []) upd_same hf (r.still fun _ _ e => e) (fun z => nomatch z)) fun a z => ?_
  rcases List.mem_cons.mp z with z | z
  · subst z; exact .inl hp
  · cases z
theorem give_tup {p : Addr} {vs : List V} {ds : List D} (m : ∀ a o, F a = some o → H a = some o) (hp : H p = none) (r : Reps K F H vs ds []) (q : Give K vf fp1 F H (.tup ds) Q) : Q (.ref p) (upd H p (.tup vs)) := by
  have x := Ext.frz (o := .tup vs) m hp
  exact q _ _ _ _ x (.tup (SqT.of upd_same) (r.still x.f)) fun a z => nomatch z
theorem fp_nil {v : V} {fp : List Addr} (r : Rep K F H v d fp) (h : d.own = false) : Rep K F H v d [] := by
  have e := r.noown h
  subst e
  exact r
theorem fps_nil {vs : List V} {ds : List D} {fp : List Addr} (r : Reps K F H vs ds fp) (h : ownL ds = false) : Reps K F H vs ds [] := by
  have e := r.noown h
  subst e
  exact r
theorem own_false {b : Bool} (h : ¬ b = true) : b = false := by cases b <;> simp at h ⊢
theorem asc_app {s t : List Nat} (h : asc s = true) (h2 : asc t = true) : asc (s ++ t) = true := by unfold asc at h h2 ⊢; rw [List.all_append, h, h2]; rfl
theorem asc_mem {s : List Nat} : asc s = true ↔ ∀ c ∈ s, c < 128 := by unfold asc; simp
theorem len_of {a : Addr} {vs : List V} (X : Cx) {pins : List (Addr × Obj)} {σ : L2.St} {s : Shared} (I : Inv X pins σ H s) (h : SqL X.K H a vs) : vs.length ≤ SL := by
  obtain ⟨_, _, _, z⟩ := I.list h
  rw [← sl_eq]; exact z
end

section
variable {X : Cx}
/-- list + list, of whatever kind -/
def rCatL (K : PySem.W.Frag) : R2 := fun x y H Q => ∃ l b xs zs, x = .ref l ∧ y = .ref b ∧ SqL K H l xs ∧ SqL K H b zs ∧ xs.length + zs.length ≤ sizeLine ∧ ∀ p, H p = none → Q (.ref p) (upd H p (.lst (xs ++ zs)))
theorem op_catL : OpR X (binaryOp .Add) (rCatL X.K) := by
  intro pins s σ H x y v u Q I rx ry h
  obtain ⟨l, b, xs, zs, rfl, rfl, hH, hB, hz, q⟩ := h
  cases rx
  cases ry
  obtain ⟨its, r, ⟨⟨c, dd, dt, sl⟩, n, e, hc, hd, hdt⟩, _⟩ := I.list hH
  obtain ⟨its2, r2, ⟨⟨c2, dd2, dt2, sl2⟩, n2, e2, hc2, hd2, hdt2⟩, _⟩ := I.list hB
  simp only at hc hd hdt hc2 hd2 hdt2
  subst hc hd hdt hc2 hd2 hdt2
  have h1 := r.length
  have h2 := r2.length
  refine concat_meets ⟨_, e, rfl⟩ ⟨_, e2, rfl⟩ noFill_list_add seq_list_add PySem.F.slot_list_add PySem.F.entry_list_add (PySem.F.args_list_add_2 _ _) (list_addW l b its.toArray its2.toArray n n2 _ _ _ _ (by rw [List.size_toArray, List.size_toArray]; omega)) ⟨e, e2, ?_⟩
  have ea : its.toArray ++ its2.toArray = (its ++ its2).toArray := by simp
  rw [ea]
  exact ⟨.ref _, _, I.lnew (t' := s.toks) (r.append r2) (by rw [List.length_append]; omega), rfl, q _ I.fresh⟩

theorem or_add : OpR X (binaryOp .Add) (rO X.K (op2 .add) false) := by
  intro pins s σ H x y v u Q I rx ry h
  obtain ⟨F, d1, fp1, d2, fp2, d, m, r1, r2, e, q⟩ := h
  cases d1 <;> cases d2 <;> simp only [op2, reduceCtorEq] at e
  · obtain ⟨rfl, _⟩ := rep_int r1
    obtain ⟨rfl, _⟩ := rep_int r2
    cases e
    exact op_add pins s σ H _ _ v u Q I rx ry ⟨_, _, rfl, rfl, give_int m q⟩
  · rename_i s1 s2
    obtain ⟨rfl, _, a1⟩ := rep_str r1
    obtain ⟨rfl, _, a2⟩ := rep_str r2
    by_cases hl : s1.length + s2.length ≤ SL
    · rw [if_pos hl] at e
      cases e
      exact op_add_str pins s σ H _ _ v u Q I rx ry ⟨_, _, rfl, rfl, by rw [SX.S_len, SX.S_len, sl_eq]; exact hl, by rw [SX.S_cat]; exact give_str m (asc_app a1 a2) q⟩
    · rw [if_neg hl] at e; cases e
  · rename_i xs ys
    by_cases hl : ownL xs = true ∨ ownL ys = true ∨ SL < xs.length + ys.length
    · rw [if_pos hl] at e; cases e
    · rw [if_neg hl] at e
      cases e
      simp only [not_or] at hl
      obtain ⟨h1, h2, h3⟩ := hl
      obtain ⟨a, vs, rfl, t0, t1, p1⟩ := rep_tup m r1
      obtain ⟨b, ws, rfl, t0', t2, p2⟩ := rep_tup m r2
      have p1 := fps_nil p1 (own_false h1)
      have p2 := fps_nil p2 (own_false h2)
      have l1 := p1.len
      have l2 := p2.len
      refine op_catA pins s σ H _ _ v u Q I rx ry ⟨a, b, vs, ws, rfl, rfl, t1, t2, by rw [sl_eq]; omega, fun e => ?_, fun _ e => ?_, fun _ _ p hp => ?_⟩
      · subst e
        cases xs with
        | nil => exact give_same m (.tup t0' p2) q
        | cons _ _ => simp at l1
      · subst e
        cases ys with
        | nil =>
          rw [List.append_nil] at q
          exact give_same m (.tup t0 p1) q
        | cons _ _ => simp at l2
      · exact give_tup m hp (p1.app0 p2) q
  · rename_i o xs o' ys
    by_cases hl : ownL xs = true ∨ ownL ys = true ∨ SL < xs.length + ys.length
    · rw [if_pos hl] at e; cases e
    · rw [if_neg hl] at e
      cases e
      simp only [not_or] at hl
      obtain ⟨h1, h2, h3⟩ := hl
      obtain ⟨a, vs, fq, rfl, t1, p1, _⟩ := rep_lst m r1
      obtain ⟨b, ws, fq', rfl, t2, p2, _⟩ := rep_lst m r2
      have p1 := fps_nil p1 (own_false h1)
      have p2 := fps_nil p2 (own_false h2)
      have l1 := p1.len
      have l2 := p2.len
      exact op_catL pins s σ H _ _ v u Q I rx ry ⟨a, b, vs, ws, rfl, rfl, t1, t2, by rw [sl_eq]; omega, fun p hp => give_lst m hp (p1.app0 p2) q⟩
theorem or_sub : OpR X (binaryOp .Sub) (rO X.K (op2 .sub) false) := by
  intro pins s σ H x y v u Q I rx ry h
  obtain ⟨F, d1, fp1, d2, fp2, d, m, r1, r2, e, q⟩ := h
  cases d1 <;> cases d2 <;> simp only [op2, reduceCtorEq] at e
  obtain ⟨rfl, _⟩ := rep_int r1
  obtain ⟨rfl, _⟩ := rep_int r2
  cases e
  exact op_sub pins s σ H _ _ v u Q I rx ry ⟨_, _, rfl, rfl, give_int m q⟩
theorem big_lt {n : Nat} (h : n < BIG) : n < 2 ^ 4096 := by
  have e : BIG = 2 ^ 4096 := by decide +kernel
  rw [← e]; exact h
theorem foldl_reps : ∀ (n : Nat) (s acc : List Nat), (List.replicate n s.toArray).foldl (· ++ ·) acc.toArray = (acc ++ (List.replicate n s).flatten).toArray
  | 0, s, acc => by simp
  | n + 1, s, acc => by
    rw [List.replicate_succ, List.foldl_cons, List.append_toArray, foldl_reps n s (acc ++ s), List.replicate_succ, List.flatten_cons, List.append_assoc]
theorem asc_reps {s : List Nat} (h : asc s = true) : ∀ n : Nat, asc (List.replicate n s).flatten = true
  | 0 => rfl
  | n + 1 => by
    rw [List.replicate_succ, List.flatten_cons]
    exact asc_app h (asc_reps h n)
theorem op_repS : OpR X (binaryOp .Mult) (fun x y H Q => ∃ (s : List Nat) (j : Int), x = .str ⟨s.toArray⟩ ∧ y = .int j ∧ j < 1000000 ∧ -1000000 < j ∧ s.length * j.toNat ≤ SL ∧ Q (.str ⟨(List.replicate j.toNat s).flatten.toArray⟩) H) := by
  intro pins st σ H x y v u Q I rx ry h
  obtain ⟨s, j, rfl, rfl, h1, h2, h3, q⟩ := h
  obtain ⟨t, rfl⟩ := rx
  obtain ⟨t', rfl⟩ := ry
  have hl : (⟨s.toArray⟩ : Str).length = s.length := rfl
  refine P.mul_str ?_ (fun hn _ => ?_) (fun _ _ => ?_) ?_
  · simp only [Bool.or_eq_false_iff, decide_eq_false_iff_not]
    omega
  · rw [hl]
    have e0 : SL = 16777216 := rfl
    have hj : (j.toNat : Int) = j := by omega
    have h4 : (s.length : Int) * j ≤ 16777216 := by
      have : ((s.length * j.toNat : Nat) : Int) ≤ 16777216 := by omega
      rw [Int.natCast_mul, hj] at this
      exact this
    have : (s.length : Int) ≤ (2 ^ 63 - 1) / j := by
      rw [Int.le_ediv_iff_mul_le (by omega)]
      omega
    omega
  · unfold Builtin.Str.tooLong
    rw [hl]
    simp only [decide_eq_false_iff_not, sl_eq]
    omega
  · by_cases hn : j < 1
    · rw [if_pos hn]
      have e : j.toNat = 0 := by omega
      rw [e] at q
      exact ⟨by rw [sl_eq]; exact Nat.zero_le _, .str ⟨#[]⟩, H, I.tok _, ⟨_, rfl⟩, q⟩
    · rw [if_neg hn]
      by_cases hb : (j == 1 || (⟨s.toArray⟩ : Str).length == 0) = true
      · rw [if_pos hb]
        have e : (List.replicate j.toNat s).flatten = s := by
          rw [hl, Bool.or_eq_true, beq_iff_eq, beq_iff_eq] at hb
          rcases hb with hb | hb
          · subst hb; simp
          · rw [List.length_eq_zero_iff] at hb
            subst hb; simp
        rw [e] at q
        exact ⟨.str ⟨s.toArray⟩, H, I, ⟨_, rfl⟩, q⟩
      · rw [if_neg hb]
        have e := foldl_reps j.toNat s []
        rw [List.nil_append] at e
        have e : (List.replicate j.toNat s.toArray).foldl (· ++ ·) #[] = (List.replicate j.toNat s).flatten.toArray := e
        refine ⟨?_, ?_⟩
        · show (List.foldl (· ++ ·) #[] (List.replicate j.toNat s.toArray)).size ≤ sizeLine
          rw [e, sl_eq, List.size_toArray, List.length_flatten, List.map_replicate, List.sum_replicate_nat, Nat.mul_comm]
          exact h3
        show EP X pins σ Q (.str ⟨(List.replicate j.toNat s.toArray).foldl (· ++ ·) #[]⟩ st.toks) _
        rw [e]
        exact ⟨.str ⟨(List.replicate j.toNat s).flatten.toArray⟩, H, I.tok _, ⟨_, rfl⟩, q⟩
theorem or_mul : OpR X (binaryOp .Mult) (rO X.K (op2 .mul) false) := by
  intro pins st σ H x y v u Q I rx ry h
  obtain ⟨F, d1, fp1, d2, fp2, d, m, r1, r2, e, q⟩ := h
  cases d1 <;> cases d2 <;> simp only [op2, reduceCtorEq] at e
  · rename_i i j
    obtain ⟨rfl, _⟩ := rep_int r1
    obtain ⟨rfl, _⟩ := rep_int r2
    by_cases hm : mulOk i j = true
    · rw [if_pos hm] at e
      cases e
      unfold mulOk at hm
      simp only [Bool.or_eq_true, Bool.and_eq_true, decide_eq_true_eq] at hm
      rcases hm with hm | hm | hm
      · exact op_mul pins st σ H _ _ v u Q I rx ry ⟨_, _, rfl, rfl, .inl ⟨by omega, by omega⟩, give_int m q⟩
      · exact op_mul pins st σ H _ _ v u Q I rx ry ⟨_, _, rfl, rfl, .inr ⟨by omega, by omega⟩, give_int m q⟩
      · exact op_mulW pins st σ H _ _ v u Q I rx ry ⟨_, _, rfl, rfl, wide_mul (a := 4096) (b := 4096) (big_lt hm.1) (big_lt hm.2) (by decide) (by decide) (by decide), give_int m q⟩
    · rw [if_neg hm] at e; cases e
  · rename_i s j
    obtain ⟨rfl, _, a1⟩ := rep_str r1
    obtain ⟨rfl, _⟩ := rep_int r2
    by_cases hm : j < 1000000 ∧ -1000000 < j ∧ s.length * j.toNat ≤ SL
    · rw [if_pos hm] at e
      cases e
      exact op_repS pins st σ H _ _ v u Q I rx ry ⟨s, j, rfl, rfl, hm.1, hm.2.1, hm.2.2, give_str m (asc_reps a1 _) q⟩
    · rw [if_neg hm] at e; cases e
theorem or_fdiv : OpR X (binaryOp .FloorDiv) (rO X.K (op2 .fdiv) false) := by
  intro pins s σ H x y v u Q I rx ry h
  obtain ⟨F, d1, fp1, d2, fp2, d, m, r1, r2, e, q⟩ := h
  cases d1 <;> cases d2 <;> simp only [op2, reduceCtorEq] at e
  rename_i i j
  obtain ⟨rfl, _⟩ := rep_int r1
  obtain ⟨rfl, _⟩ := rep_int r2
  by_cases hm : 0 < j ∧ j < 1073741824
  · rw [if_pos hm] at e
    cases e
    exact op_fdiv pins s σ H _ _ v u Q I rx ry ⟨_, _, rfl, rfl, hm, give_int m q⟩
  · rw [if_neg hm] at e; cases e
theorem or_mod : OpR X (binaryOp .Mod) (rO X.K (op2 .mod) false) := by
  intro pins s σ H x y v u Q I rx ry h
  obtain ⟨F, d1, fp1, d2, fp2, d, m, r1, r2, e, q⟩ := h
  cases d1 <;> cases d2 <;> simp only [op2, reduceCtorEq] at e
  rename_i i j
  obtain ⟨rfl, _⟩ := rep_int r1
  obtain ⟨rfl, _⟩ := rep_int r2
  by_cases hm : 0 < j
  · rw [if_pos hm] at e
    cases e
    exact op_mod pins s σ H _ _ v u Q I rx ry ⟨_, _, rfl, rfl, hm, give_int m q⟩
  · rw [if_neg hm] at e; cases e
theorem or_pow : OpR X (binaryOp .Pow) (rO X.K (op2 .pow) false) := by
  intro pins s σ H x y v u Q I rx ry h
  obtain ⟨F, d1, fp1, d2, fp2, d, m, r1, r2, e, q⟩ := h
  cases d1 <;> cases d2 <;> simp only [op2, reduceCtorEq] at e
  rename_i i j
  obtain ⟨rfl, _⟩ := rep_int r1
  obtain ⟨rfl, _⟩ := rep_int r2
  by_cases hm : 0 ≤ j ∧ j ≤ 1000000 ∧ i.natAbs < 18446744073709551616
  · rw [if_pos hm] at e
    cases e
    exact op_pow pins s σ H _ _ v u Q I rx ry ⟨_, _, rfl, rfl, ⟨hm.1, hm.2.1, hm.2.2⟩, give_int m q⟩
  · rw [if_neg hm] at e; cases e
theorem or_eq (hu : X.A.units + 64 < cLine) : OpR X (compareOp .Eq) (rO X.K (op2 .eq) false) := by
  intro pins s σ H x y v u Q I rx ry h
  obtain ⟨F, d1, fp1, d2, fp2, d, m, r1, r2, e, q⟩ := h
  simp only [op2, eqOf] at e
  by_cases hd : d1.dep ≤ 64 ∧ d2.dep ≤ 64
  · rw [if_pos hd] at e
    cases e
    refine op_eqD hu pins s σ H x y v u Q I rx ry ⟨_, _, r1.dp m (by omega), r2.dp m (by omega), r1.shaped hd.1, r2.shaped hd.2, ?_⟩
    rw [py_eqv _ _ (by omega) (by omega)]
    exact give_bl m q
  · rw [if_neg hd] at e; cases e
theorem or_ne (hu : X.A.units + 64 < cLine) : OpR X (compareOp .NotEq) (rO X.K (op2 .ne) false) := by
  intro pins s σ H x y v u Q I rx ry h
  obtain ⟨F, d1, fp1, d2, fp2, d, m, r1, r2, e, q⟩ := h
  simp only [op2, eqOf] at e
  by_cases hd : d1.dep ≤ 64 ∧ d2.dep ≤ 64
  · rw [if_pos hd] at e
    cases e
    refine op_neD hu pins s σ H x y v u Q I rx ry ⟨_, _, r1.dp m (by omega), r2.dp m (by omega), r1.shaped hd.1, r2.shaped hd.2, ?_⟩
    rw [py_eqv _ _ (by omega) (by omega)]
    exact give_bl m q
  · rw [if_neg hd] at e; cases e
theorem lexb_lt : ∀ a b : List Nat, lexb a b = decide (a < b)
  | [], [] => by simp [lexb]
  | [], _ :: _ => by simp [lexb]
  | _ :: _, [] => by simp [lexb]
  | x :: xs, y :: ys => by
    simp only [lexb, List.cons_lt_cons_iff]
    rw [lexb_lt xs ys]
    by_cases h : x = y
    · subst h; simp
    · simp [h]
theorem or_lt : OpR X (compareOp .Lt) (rO X.K (op2 .lt) false) := by
  intro pins s σ H x y v u Q I rx ry h
  obtain ⟨F, d1, fp1, d2, fp2, d, m, r1, r2, e, q⟩ := h
  cases d1 <;> cases d2 <;> simp only [op2, reduceCtorEq] at e
  · obtain ⟨rfl, _⟩ := rep_int r1
    obtain ⟨rfl, _⟩ := rep_int r2
    cases e
    exact op_lt pins s σ H _ _ v u Q I rx ry ⟨_, _, rfl, rfl, give_bl m q⟩
  · obtain ⟨rfl, _, a1⟩ := rep_str r1
    obtain ⟨rfl, _, a2⟩ := rep_str r2
    cases e
    refine op_lt_str pins s σ H _ _ v u Q I rx ry ⟨_, _, rfl, rfl, ?_⟩
    rw [lexb_lt] at q
    exact give_bl m q
theorem or_le : OpR X (compareOp .LtE) (rO X.K (op2 .le) false) := by
  intro pins s σ H x y v u Q I rx ry h
  obtain ⟨F, d1, fp1, d2, fp2, d, m, r1, r2, e, q⟩ := h
  cases d1 <;> cases d2 <;> simp only [op2, reduceCtorEq] at e
  · obtain ⟨rfl, _⟩ := rep_int r1
    obtain ⟨rfl, _⟩ := rep_int r2
    cases e
    exact op_le pins s σ H _ _ v u Q I rx ry ⟨_, _, rfl, rfl, give_bl m q⟩
  · obtain ⟨rfl, _, a1⟩ := rep_str r1
    obtain ⟨rfl, _, a2⟩ := rep_str r2
    cases e
    refine op_le_str pins s σ H _ _ v u Q I rx ry ⟨_, _, rfl, rfl, ?_⟩
    rw [lexb_lt] at q
    exact give_bl m q
theorem or_gt : OpR X (compareOp .Gt) (rO X.K (op2 .gt) false) := by
  intro pins s σ H x y v u Q I rx ry h
  obtain ⟨F, d1, fp1, d2, fp2, d, m, r1, r2, e, q⟩ := h
  cases d1 <;> cases d2 <;> simp only [op2, reduceCtorEq] at e
  · obtain ⟨rfl, _⟩ := rep_int r1
    obtain ⟨rfl, _⟩ := rep_int r2
    cases e
    exact op_gt pins s σ H _ _ v u Q I rx ry ⟨_, _, rfl, rfl, give_bl m q⟩
  · obtain ⟨rfl, _, a1⟩ := rep_str r1
    obtain ⟨rfl, _, a2⟩ := rep_str r2
    cases e
    refine op_gt_str pins s σ H _ _ v u Q I rx ry ⟨_, _, rfl, rfl, ?_⟩
    rw [lexb_lt] at q
    exact give_bl m q
theorem or_ge : OpR X (compareOp .GtE) (rO X.K (op2 .ge) false) := by
  intro pins s σ H x y v u Q I rx ry h
  obtain ⟨F, d1, fp1, d2, fp2, d, m, r1, r2, e, q⟩ := h
  cases d1 <;> cases d2 <;> simp only [op2, reduceCtorEq] at e
  · obtain ⟨rfl, _⟩ := rep_int r1
    obtain ⟨rfl, _⟩ := rep_int r2
    cases e
    exact op_ge pins s σ H _ _ v u Q I rx ry ⟨_, _, rfl, rfl, give_bl m q⟩
  · obtain ⟨rfl, _, a1⟩ := rep_str r1
    obtain ⟨rfl, _, a2⟩ := rep_str r2
    cases e
    refine op_ge_str pins s σ H _ _ v u Q I rx ry ⟨_, _, rfl, rfl, ?_⟩
    rw [lexb_lt] at q
    exact give_bl m q
end
end Z

set_option Elab.async false
set_option linter.all false
set_option maxRecDepth 100000
namespace Z
open PySem PySem.Spec PyProof.Rows L2

section
variable {X : Cx}
theorem infix_iff (p t : List Nat) : infixB p t = true ↔ ∃ i, i + p.length ≤ t.length ∧ (t.drop i).take p.length = p := by
  induction t with
  | nil =>
    simp only [infixB, List.isEmpty_iff]
    constructor
    · intro h; subst h; exact ⟨0, by simp, by simp⟩
    · rintro ⟨i, h, _⟩
      simp only [List.length_nil] at h
      exact List.length_eq_zero_iff.mp (by omega)
  | cons c s ih =>
    simp only [infixB, Bool.or_eq_true, ih]
    constructor
    · rintro (h | ⟨i, h1, h2⟩)
      · have h := List.isPrefixOf_iff_prefix.mp h
        exact ⟨0, by simpa using h.length_le, by simpa using (List.prefix_iff_eq_take.mp h).symm⟩
      · exact ⟨i + 1, by simp only [List.length_cons]; omega, by simpa using h2⟩
    · rintro ⟨i, h1, h2⟩
      cases i with
      | zero =>
        left
        refine List.isPrefixOf_iff_prefix.mpr (List.prefix_iff_eq_take.mpr ?_)
        simpa using h2.symm
      | succ i => exact .inr ⟨i, by simp only [List.length_cons] at h1; omega, by simpa using h2⟩
theorem occ_infix (p t : List Nat) : (!(Builtin.Str.occurrences (SX.S t) (SX.S p) 0 (SX.S t).length 1).isEmpty) = infixB p t := by
  have h := StrLaws.found_iff (SX.S t) (SX.S p)
  have e : (∃ i, i + (SX.S p).length ≤ (SX.S t).length ∧ Builtin.Str.subAt (SX.S t) (SX.S p) i = true) ↔ infixB p t = true := by
    rw [infix_iff]
    simp only [SX.S_len]
    refine exists_congr fun i => and_congr_right fun _ => ?_
    unfold Builtin.Str.subAt
    rw [beq_iff_eq, ← Array.toList_inj]
    simp [Str.length]
  rw [Bool.eq_iff_iff]
  exact h.trans e
theorem or_in (hu : X.A.units + 65 < cLine) : OpR X (compareOp .In) (rO X.K (op2 .isin) false) := by
  intro pins s σ H x y v u Q I rx ry h
  obtain ⟨F, d1, fp1, d2, fp2, d, m, r1, r2, e, q⟩ := h
  cases d2 <;> simp only [op2, inOf, reduceCtorEq, Option.map_eq_some_iff] at e
  all_goals (obtain ⟨b, e1, e2⟩ := e; cases e2)
  all_goals (try (cases e1; done))
  · cases d1 <;> simp only [reduceCtorEq, Option.some.injEq] at e1
    obtain ⟨rfl, _, _⟩ := rep_str r1
    obtain ⟨rfl, _, _⟩ := rep_str r2
    refine op_in_str pins s σ H _ _ v u Q I rx ry ⟨_, _, rfl, rfl, ?_⟩
    rw [occ_infix, e1]
    exact give_bl m q
  · split at e1
    · rename_i ys hd
      cases e1
      have D1 := r1.dp m (by omega)
      have D2 := r2.dp m (by simp only [D.dep]; omega)
      obtain ⟨as, q1⟩ := Dp.reads I _ x v D1 rx
      obtain ⟨bs, q2⟩ := Dp.reads I _ y u D2 ry
      refine SeqAt.in_tuple_reads (by simpa only [D.py] using q2) q1 (SeqAt.canLay_of_shaped (r2.shaped (by simp only [D.dep]; omega)) |> fun z => by simpa only [D.py, PyData.canLay0] using z) (r1.lay (by omega)) ?_ ⟨.bl _, H, I, rfl, ?_⟩
      · have e1 := py_dep d1 (by omega)
        omega
      · rw [any_py (by omega) (by omega)]
        exact give_bl m q
    · cases e1
  · split at e1
    · rename_i o ys hd
      cases e1
      refine op_inD hu pins s σ H x y v u Q I rx ry ⟨d1.py, pyL _, r1.dp m (by omega), (by have z := r2.dp m (by simp only [D.dep]; omega); simpa only [D.py] using z), r1.shaped (by omega), (by have z := r2.shaped (by simp only [D.dep]; omega); simpa only [D.py] using z), ?_⟩
      rw [any_py (by omega) (by omega)]
      exact give_bl m q
    · cases e1
end
end Z

set_option Elab.async false
set_option linter.all false
set_option maxRecDepth 100000
namespace Z
open PySem PySem.Spec PyProof.Rows L2

section
variable {X : Cx}
theorem or_notin (hu : X.A.units + 65 < cLine) : OpR X (compareOp .NotIn) (rO X.K (op2 .notin) false) := by
  intro pins s σ H x y v u Q I rx ry h
  obtain ⟨F, d1, fp1, d2, fp2, d, m, r1, r2, e, q⟩ := h
  cases d2 <;> simp only [op2, inOf, reduceCtorEq, Option.map_eq_some_iff] at e
  all_goals (obtain ⟨b, e1, e2⟩ := e; cases e2)
  all_goals (try (cases e1; done))
  · cases d1 <;> simp only [reduceCtorEq, Option.some.injEq] at e1
    obtain ⟨rfl, _, _⟩ := rep_str r1
    obtain ⟨rfl, _, _⟩ := rep_str r2
    refine op_notIn_str pins s σ H _ _ v u Q I rx ry ⟨_, _, rfl, rfl, ?_⟩
    rw [occ_infix, e1]
    exact give_bl m q
  · split at e1
    · rename_i ys hd
      cases e1
      have D1 := r1.dp m (by omega)
      have D2 := r2.dp m (by simp only [D.dep]; omega)
      obtain ⟨as, q1⟩ := Dp.reads I _ x v D1 rx
      obtain ⟨bs, q2⟩ := Dp.reads I _ y u D2 ry
      refine SeqAt.notIn_tuple_reads (by simpa only [D.py] using q2) q1 (SeqAt.canLay_of_shaped (r2.shaped (by simp only [D.dep]; omega)) |> fun z => by simpa only [D.py, PyData.canLay0] using z) (r1.lay (by omega)) ?_ ⟨.bl _, H, I, rfl, ?_⟩
      · have e1 := py_dep d1 (by omega)
        omega
      · rw [any_py (by omega) (by omega)]
        exact give_bl m q
    · cases e1
  · split at e1
    · rename_i o ys hd
      cases e1
      refine op_notInD hu pins s σ H x y v u Q I rx ry ⟨d1.py, pyL _, r1.dp m (by omega), (by have z := r2.dp m (by simp only [D.dep]; omega); simpa only [D.py] using z), r1.shaped (by omega), (by have z := r2.shaped (by simp only [D.dep]; omega); simpa only [D.py] using z), ?_⟩
      rw [any_py (by omega) (by omega)]
      exact give_bl m q
    · cases e1
theorem ixOf_eq (n : Nat) (i : Int) : ixOf n i = ixN n i := rfl
theorem at_eq {α : Type} (xs : List α) (i : Int) : at_ xs i = atI xs i := rfl
theorem at_map {α β : Type} {xs : List α} {ys : List β} (h : xs.length = ys.length) {i : Int} {y : β} (e : at_ ys i = some y) : ∃ (j : Nat) (x : α), xs[j]? = some x ∧ ys[j]? = some y ∧ at_ xs i = some x := by
  unfold at_ at e ⊢
  rw [h]
  cases q : ixOf ys.length i with
  | none => rw [q] at e; cases e
  | some j =>
    rw [q] at e
    have e1 : ys[j]? = some y := e
    obtain ⟨hj, _⟩ := List.getElem?_eq_some_iff.mp e1
    exact ⟨j, xs[j], List.getElem?_eq_getElem (by omega), e1, List.getElem?_eq_getElem (by omega)⟩
theorem ir_ix : IxR X (rO X.K (op2 .ix) true) := by
  intro value slice pins s σ H x y v u Q I rx ry h hs
  obtain ⟨F, d1, fp1, d2, fp2, d, m, r1, r2, e, q⟩ := h
  cases d1 <;> cases d2 <;> simp only [op2, reduceCtorEq] at e
  · rename_i z i
    obtain ⟨rfl, _, a1⟩ := rep_str r1
    obtain ⟨rfl, _⟩ := rep_int r2
    by_cases hl : z.length ≤ SL
    · rw [if_pos hl] at e
      simp only [Option.map_eq_some_iff] at e
      obtain ⟨c, e1, e2⟩ := e
      cases e2
      have hc : c < 128 := by
        obtain ⟨j, _, hj, hj2, _⟩ := at_map (xs := z) rfl e1
        exact asc_mem.mp a1 c (List.mem_of_getElem? hj2)
      exact ix_str value slice pins s σ H _ _ v u Q I rx ry ⟨_, i, c, rfl, rfl, by rw [SX.S_len, sl_eq]; exact hl, e1, give_str m (by simp [asc, hc]) q⟩ hs
    · rw [if_neg hl] at e; cases e
  · rename_i ys i
    obtain ⟨rfl, _⟩ := rep_int r2
    obtain ⟨a, vs, rfl, t0, t1, p1⟩ := rep_tup m r1
    obtain ⟨j, w, hj, hj2, hj3⟩ := at_map p1.len e
    obtain ⟨w', fq, e3, r3, hm⟩ := p1.at_ hj2
    rw [hj] at e3; cases e3
    exact ix_tup value slice pins s σ H _ _ v u Q I rx ry ⟨a, vs, i, w, rfl, rfl, t1, hj3, q _ _ _ _ (Ext.refl m) r3 fun b z => .inr ⟨rfl, hm b z⟩⟩ hs
  · rename_i o ys i
    obtain ⟨rfl, _⟩ := rep_int r2
    obtain ⟨a, vs, f0, rfl, t1, p1, hf⟩ := rep_lst m r1
    obtain ⟨j, w, hj, hj2, hj3⟩ := at_map p1.len e
    obtain ⟨w', fq, e3, r3, hm⟩ := p1.at_ hj2
    rw [hj] at e3; cases e3
    exact ix_list value slice pins s σ H _ _ v u Q I rx ry ⟨a, vs, i, w, rfl, rfl, t1, hj3, q _ _ _ _ (Ext.refl m) r3 fun b z => .inr ⟨rfl, hf b (hm b z)⟩⟩ hs
/-! slices -/
def rSl (K : PySem.W.Frag) : V → Option Int → Option Int → Hp → VK → Prop := fun x l h H Q => ∃ F d1 fp1 d, (∀ a o, F a = some o → H a = some o) ∧ Rep K F H x d1 fp1 ∧ slice2 d1 l h = some d ∧ Give K false fp1 F H d Q
theorem cut_eq {α : Type} (xs : List α) (lo hi : Option Int) : cut xs lo hi = (xs.drop (HT.sIx xs.length 0 lo)).take (HT.sIx xs.length xs.length hi - HT.sIx xs.length 0 lo) := rfl
theorem cut_reps {K : PySem.W.Frag} {F H : Hp} {vs : List V} {ds : List D} (h : Reps K F H vs ds []) (lo hi : Option Int) : Reps K F H (cutV vs lo hi) (cut ds lo hi) [] := by
  unfold cutV
  rw [cut_eq, h.len]
  exact (h.drop0 _).take0 _
theorem cut_whole {α : Type} {xs : List α} {lo hi : Option Int} (h : HT.sIx xs.length 0 lo = 0 ∧ HT.sIx xs.length xs.length hi = xs.length) : cut xs lo hi = xs := by
  rw [cut_eq, h.1, h.2]
  simp
theorem sr_sl : SlR X (rSl X.K) := by
  intro pins s σ H x v vl vu lo hi sl Q I rx hs pl pu h
  obtain ⟨F, d1, fp1, d, m, r1, e, q⟩ := h
  cases d1 <;> simp only [slice2, reduceCtorEq] at e
  · rename_i z
    obtain ⟨rfl, _, a1⟩ := rep_str r1
    by_cases hl : z.length ≤ SL
    · rw [if_pos hl] at e
      cases e
      have e1 : cutS (SX.S z) lo hi = SX.S (cut z lo hi) := by
        unfold cutS
        rw [SX.S_len]
        rfl
      refine sl_str pins s σ H _ v vl vu lo hi sl Q I rx hs pl pu ⟨_, rfl, by rw [SX.S_len, sl_eq]; exact hl, ?_⟩
      rw [e1]
      refine give_str m (asc_mem.mpr fun c hc => asc_mem.mp a1 c ?_) q
      rw [cut_eq] at hc
      exact List.mem_of_mem_drop (List.mem_of_mem_take hc)
    · rw [if_neg hl] at e; cases e
  · rename_i ys
    by_cases ho : ownL ys = true
    · rw [if_pos ho] at e; cases e
    · rw [if_neg ho] at e
      cases e
      obtain ⟨a, vs, rfl, t0, t1, p1⟩ := rep_tup m r1
      have p1 := fps_nil p1 (own_false ho)
      refine sl_tupA pins s σ H _ v vl vu lo hi sl Q I rx hs pl pu ⟨a, vs, rfl, t1, fun hw => ?_, fun _ p hp => give_tup m hp (cut_reps p1 lo hi) q⟩
      rw [p1.len] at hw
      rw [cut_whole hw] at q
      exact give_same m (.tup t0 p1) q
  · rename_i o ys
    by_cases ho : ownL ys = true
    · rw [if_pos ho] at e; cases e
    · rw [if_neg ho] at e
      cases e
      obtain ⟨a, vs, f0, rfl, t1, p1, hf⟩ := rep_lst m r1
      have p1 := fps_nil p1 (own_false ho)
      exact sl_list pins s σ H _ v vl vu lo hi sl Q I rx hs pl pu ⟨a, vs, rfl, t1, fun p hp => give_lst m hp (cut_reps p1 lo hi) q⟩
end
end Z

set_option Elab.async false
set_option linter.all false
set_option maxRecDepth 100000
namespace Z
open PySem PySem.Spec PyProof.Rows L2

def r1 (k : V → Hp → VK → Prop) : List V → Hp → VK → Prop := fun xs H Q => ∃ x, xs = [x] ∧ k x H Q
def r2 (k : R2) : List V → Hp → VK → Prop := fun xs H Q => ∃ x y, xs = [x, y] ∧ k x y H Q
def m0 (k : V → Hp → VK → Prop) : V → List V → Hp → VK → Prop := fun x xs H Q => xs = [] ∧ k x H Q
def m1 (k : R2) : V → List V → Hp → VK → Prop := fun x xs H Q => ∃ y, xs = [y] ∧ k x y H Q
section
variable {X : Cx}
theorem cu_len : CallR X (.builtin "len") (r1 (rU X.K (un1 .len) false)) := by
  intro pins s σ H xs us Q I rs h
  obtain ⟨x, rfl, F, d1, fp1, d, m, r1, e, q⟩ := h
  cases d1 <;> simp only [un1, lenOf, reduceCtorEq, Option.map_none, Option.map_some, Option.some.injEq] at e
  · rename_i z
    obtain ⟨rfl, _, a1⟩ := rep_str r1
    by_cases hl : z.length ≤ SL
    · rw [if_pos hl] at e
      cases e
      exact call_len_str pins s σ H _ us Q I rs ⟨_, rfl, by rw [SX.S_len, sl_eq]; exact hl, by rw [SX.S_len]; exact give_int m q⟩
    · rw [if_neg hl] at e; cases e
  · subst e
    obtain ⟨a, vs, rfl, t0, t1, p1⟩ := rep_tup m r1
    exact call_len_seq pins s σ H _ us Q I rs ⟨a, vs, rfl, .inr t1, by rw [p1.len]; exact give_int m q⟩
  · subst e
    obtain ⟨a, vs, f0, rfl, t1, p1, hf⟩ := rep_lst m r1
    exact call_len_seq pins s σ H _ us Q I rs ⟨a, vs, rfl, .inl t1, by rw [p1.len]; exact give_int m q⟩
theorem cu_all (hc : X.calm = true) : CallR X (.builtin "all") (r1 (rU X.K (un1 .all) false)) := by
  intro pins s σ H xs us Q I rs h
  obtain ⟨x, rfl, F, d1, fp1, d, m, r1, e, q⟩ := h
  cases d1 <;> simp only [un1, reduceCtorEq, Option.map_eq_some_iff] at e
  obtain ⟨bs, e1, e2⟩ := e
  subst e2
  obtain ⟨a, vs, f0, rfl, t1, p1, hf⟩ := rep_lst m r1
  have e3 := reps_bls p1 e1
  subst e3
  exact cr_all hc pins s σ H _ us Q I rs ⟨a, bs, rfl, t1, give_bl m q⟩
theorem cu_any (hc : X.calm = true) : CallR X (.builtin "any") (r1 (rU X.K (un1 .any) false)) := by
  intro pins s σ H xs us Q I rs h
  obtain ⟨x, rfl, F, d1, fp1, d, m, r1, e, q⟩ := h
  cases d1 <;> simp only [un1, reduceCtorEq, Option.map_eq_some_iff] at e
  obtain ⟨bs, e1, e2⟩ := e
  subst e2
  obtain ⟨a, vs, f0, rfl, t1, p1, hf⟩ := rep_lst m r1
  have e3 := reps_bls p1 e1
  subst e3
  exact cr_any hc pins s σ H _ us Q I rs ⟨a, bs, rfl, t1, give_bl m q⟩
theorem cu_list : CallR X (.type "list") (r1 (rU X.K (un1 .list) false)) := by
  intro pins s σ H xs us Q I rs h
  obtain ⟨x, rfl, F, d1, fp1, d, m, r1, e, q⟩ := h
  cases d1 <;> simp only [un1, reduceCtorEq] at e
  · rename_i ys
    by_cases ho : ownL ys = true
    · rw [if_pos ho] at e; cases e
    · rw [if_neg ho] at e
      cases e
      obtain ⟨a, vs, rfl, t0, t1, p1⟩ := rep_tup m r1
      have p1 := fps_nil p1 (own_false ho)
      exact call_list_of pins s σ H _ us Q I rs ⟨a, vs, rfl, .inr t1, fun p hp => give_lst m hp p1 q⟩
  · rename_i o ys
    by_cases ho : ownL ys = true
    · rw [if_pos ho] at e; cases e
    · rw [if_neg ho] at e
      cases e
      obtain ⟨a, vs, f0, rfl, t1, p1, hf⟩ := rep_lst m r1
      have p1 := fps_nil p1 (own_false ho)
      exact call_list_of pins s σ H _ us Q I rs ⟨a, vs, rfl, .inl t1, fun p hp => give_lst m hp p1 q⟩
theorem cu_tuple : CallR X (.type "tuple") (r1 (rU X.K (un1 .tuple) false)) := by
  intro pins s σ H xs us Q I rs h
  obtain ⟨x, rfl, F, d1, fp1, d, m, r1, e, q⟩ := h
  cases d1 <;> simp only [un1, reduceCtorEq] at e
  · rename_i ys
    by_cases ho : ownL ys = true
    · rw [if_pos ho] at e; cases e
    · rw [if_neg ho] at e
      cases e
      obtain ⟨a, vs, rfl, t0, t1, p1⟩ := rep_tup m r1
      have p1 := fps_nil p1 (own_false ho)
      exact call_tuple_of pins s σ H _ us Q I rs ⟨a, vs, rfl, .inr ⟨t1, give_same m (.tup t0 p1) q⟩⟩
  · rename_i o ys
    by_cases ho : ownL ys = true
    · rw [if_pos ho] at e; cases e
    · rw [if_neg ho] at e
      cases e
      obtain ⟨a, vs, f0, rfl, t1, p1, hf⟩ := rep_lst m r1
      have p1 := fps_nil p1 (own_false ho)
      exact call_tuple_of pins s σ H _ us Q I rs ⟨a, vs, rfl, .inl ⟨t1, fun p hp => give_tup m hp p1 q⟩⟩
theorem cu_int : CallR X (.type "int") (r1 (rU X.K (un1 .int) false)) := by
  intro pins s σ H xs us Q I rs h
  obtain ⟨x, rfl, F, d1, fp1, d, m, r1, e, q⟩ := h
  cases d1 <;> simp only [un1, reduceCtorEq, Option.some.injEq] at e
  · subst e
    obtain ⟨rfl, _⟩ := rep_bl r1
    exact call_int1 pins s σ H _ us Q I rs (.inr ⟨_, rfl, by
      have z := give_int m q
      unfold b2i at z
      exact z⟩)
  · subst e
    obtain ⟨rfl, _⟩ := rep_int r1
    exact call_int1 pins s σ H _ us Q I rs (.inl ⟨_, rfl, give_int m q⟩)
theorem cu_min (hc : X.calm = true) : CallR X (.builtin "min") (r2 (rO X.K (op2 .min) false)) := by
  intro pins s σ H xs us Q I rs h
  obtain ⟨x, y, rfl, F, d1, fp1, d2, fp2, d, m, r1, r2, e, q⟩ := h
  cases d1 <;> cases d2 <;> simp only [op2, reduceCtorEq] at e
  obtain ⟨rfl, _⟩ := rep_int r1
  obtain ⟨rfl, _⟩ := rep_int r2
  cases e
  exact call_min2 hc pins s σ H _ us Q I rs ⟨_, _, rfl, give_int m q⟩
theorem cu_max (hc : X.calm = true) : CallR X (.builtin "max") (r2 (rO X.K (op2 .max) false)) := by
  intro pins s σ H xs us Q I rs h
  obtain ⟨x, y, rfl, F, d1, fp1, d2, fp2, d, m, r1, r2, e, q⟩ := h
  cases d1 <;> cases d2 <;> simp only [op2, reduceCtorEq] at e
  obtain ⟨rfl, _⟩ := rep_int r1
  obtain ⟨rfl, _⟩ := rep_int r2
  cases e
  exact call_max2 hc pins s σ H _ us Q I rs ⟨_, _, rfl, give_int m q⟩
theorem un_negZ : UnR X (unaryOp .USub) (rU X.K (un1 .neg) false) := by
  intro pins s σ H x v Q I rx h
  obtain ⟨F, d1, fp1, d, m, r1, e, q⟩ := h
  cases d1 <;> simp only [un1, reduceCtorEq, Option.some.injEq] at e
  subst e
  obtain ⟨rfl, _⟩ := rep_int r1
  exact un_neg pins s σ H _ v Q I rx ⟨_, rfl, give_int m q⟩

/-! texts -/
theorem parts_ne (c : Nat) : ∀ s : List Nat, parts c s ≠ []
  | [] => by simp [parts]
  | x :: xs => by
    unfold parts
    split
    · simp
    · split <;> simp
theorem parts_spl (c : Nat) : ∀ (s acc : List Nat), TL.spl [c] 0 acc s = match parts c s with | [] => [acc] | p :: ps => (acc ++ p) :: ps
  | [], acc => by simp [parts, TL.spl_nil]
  | x :: xs, acc => by
    by_cases h : x = c
    · subst h
      rw [TL.spl_hit (by simp [TL.pre])]
      simp only [parts, if_pos, List.length_singleton, Nat.sub_self, List.append_nil]
      rw [parts_spl x xs []]
      cases e : parts x xs with
      | nil => exact absurd e (parts_ne x xs)
      | cons p ps => simp
    · rw [TL.spl_miss (by simp [TL.pre, h])]
      rw [parts_spl c xs (acc ++ [x])]
      simp only [parts, if_neg h]
      cases e : parts c xs with
      | nil => exact absurd e (parts_ne c xs)
      | cons p ps => simp
theorem split_parts {c : Nat} (hc : c < 256) (s : List Nat) : Txt.split (SX.S s) (SX.S [c]) = (parts c s).map SX.S := by
  rw [SX.split_S (by simp) (by simp [hc]), parts_spl c s []]
  cases e : parts c s with
  | nil => exact absurd e (parts_ne c s)
  | cons p ps => simp
theorem parts_mem (c : Nat) : ∀ {s p : List Nat} {x : Nat}, p ∈ parts c s → x ∈ p → x ∈ s
  | [], p, x, h, hx => by simp [parts] at h; subst h; cases hx
  | y :: ys, p, x, h, hx => by
    unfold parts at h
    split at h
    · rcases List.mem_cons.mp h with h | h
      · subst h; cases hx
      · exact List.mem_cons_of_mem _ (parts_mem c h hx)
    · split at h
      · rename_i e
        exact absurd e (parts_ne c ys)
      · rename_i q qs e
        rcases List.mem_cons.mp h with h | h
        · subst h
          rcases List.mem_cons.mp hx with hx | hx
          · rw [hx]; exact List.mem_cons_self
          · exact List.mem_cons_of_mem _ (parts_mem c (by rw [e]; exact List.mem_cons_self) hx)
        · exact List.mem_cons_of_mem _ (parts_mem c (by rw [e]; exact List.mem_cons_of_mem _ h) hx)
theorem parts_len (c : Nat) : ∀ s : List Nat, (parts c s).length ≤ s.length + 1
  | [] => by simp [parts]
  | x :: xs => by
    have ih := parts_len c xs
    unfold parts
    split
    · simp only [List.length_cons]; omega
    · split
      · simp
      · rename_i e
        rw [e] at ih
        simp only [List.length_cons] at ih ⊢
        omega
theorem mu_split : MtR X "str.split" (m1 (rO X.K (op2 .split) false)) := by
  intro pins s σ H x xs v us Q I rx rs h
  obtain ⟨y, rfl, F, d1, fp1, d2, fp2, d, m, r1, r2, e, q⟩ := h
  cases d1 <;> cases d2 <;> (try (simp only [op2, reduceCtorEq] at e; done))
  rename_i z w
  rcases w with _ | ⟨c, _ | ⟨c2, w⟩⟩ <;> simp only [op2, reduceCtorEq] at e
  obtain ⟨rfl, _, a1⟩ := rep_str r1
  obtain ⟨rfl, _, a2⟩ := rep_str r2
  by_cases hl : z.length + 2 ≤ SL
  · rw [if_pos hl] at e
    cases e
    refine mt_split pins s σ H _ _ v us Q I rx rs ⟨_, _, rfl, rfl, rfl, by rw [SX.S_len, sl_eq]; exact hl, ?_⟩
    have hc : c < 128 := asc_mem.mp a2 c List.mem_cons_self
    rw [split_parts (by omega)]
    exact fun p hp => give_lst m hp (strs_reps (parts c z) fun t ht => asc_mem.mpr fun k hk => asc_mem.mp a1 k (parts_mem c ht hk)) q
  · rw [if_neg hl] at e; cases e
theorem joined_eq (sep : List Nat) : ∀ ys : List (List Nat), joined sep ys = TL.joinL sep ys
  | [] => rfl
  | [_] => rfl
  | x :: y :: xs => by
    show x ++ (sep ++ joined sep (y :: xs)) = x ++ (sep ++ TL.joinL sep (y :: xs))
    rw [joined_eq sep (y :: xs)]
theorem joined_asc {sep : List Nat} (hs : asc sep = true) : ∀ ys : List (List Nat), (∀ y ∈ ys, asc y = true) → asc (joined sep ys) = true
  | [], _ => rfl
  | [x], h => h x List.mem_cons_self
  | x :: y :: xs, h => asc_app (h x List.mem_cons_self) (asc_app hs (joined_asc hs (y :: xs) fun z hz => h z (List.mem_cons_of_mem _ hz)))
theorem mu_join : MtR X "str.join" (m1 (rO X.K (op2 .join) false)) := by
  intro pins s σ H x xs v us Q I rx rs h
  obtain ⟨y, rfl, F, d1, fp1, d2, fp2, d, m, r1, r2, e, q⟩ := h
  cases d1 <;> cases d2 <;> simp only [op2, reduceCtorEq, Option.bind_eq_some_iff] at e
  obtain ⟨ys, e1, e2⟩ := e
  have e3 := strsOf_eq e1
  subst e3
  obtain ⟨rfl, _, a1⟩ := rep_str r1
  obtain ⟨a, vs, f0, rfl, t1, p1, hf⟩ := rep_lst m r2
  obtain ⟨e4, e5, a2⟩ := reps_strs p1
  subst e4
  split at e2
  · rename_i hl
    cases e2
    refine mt_join pins s σ H _ _ v us Q I rx rs ⟨_, a, ys.map SX.S, rfl, rfl, .inl t1, ?_, ?_⟩
    · rw [SX.lens, List.length_map, SX.S_len]
      exact hl
    · rw [SX.join_S, ← joined_eq]
      exact give_str m (joined_asc a1 ys a2) q
  · cases e2
theorem upper_asc : ∀ s : List Nat, asc s = true → Txt.upper (SX.S s) = SX.S (s.map upc) ∧ asc (s.map upc) = true := by
  have key : ∀ c, c < 128 → Unicode.upperOf c = [upc c] ∧ upc c < 128 := by decide +kernel
  intro s h
  constructor
  · unfold Txt.upper
    have e : PySem.placed (SX.S s) (fun _ c => Unicode.upperOf c) = (s.map upc).toArray := by
      unfold PySem.placed
      apply Array.ext'
      simp only [Array.toList_flatten, Array.toList_mapIdx, List.map_toArray]
      have gen : ∀ (l : List Nat) (k : Nat), asc l = true → ((l.mapIdx fun i c => (Unicode.upperOf c).toArray).map Array.toList).flatten = l.map upc := by
        intro l
        induction l with
        | nil => intro _ _; rfl
        | cons c l ih =>
          intro k hl
          have hc := (key c (asc_mem.mp hl c List.mem_cons_self)).1
          have hl' : asc l = true := asc_mem.mpr fun x hx => asc_mem.mp hl x (List.mem_cons_of_mem _ hx)
          rw [List.mapIdx_cons]
          simp only [List.map_cons, List.flatten_cons, hc]
          rw [ih k hl']
          rfl
      exact gen s 0 h
    rw [e]
  · refine asc_mem.mpr fun c hc => ?_
    obtain ⟨x, hx, rfl⟩ := List.mem_map.mp hc
    exact (key x (asc_mem.mp h x hx)).2
theorem mu_upper : MtR X "str.upper" (m0 (rU X.K (un1 .upper) false)) := by
  intro pins s σ H x xs v us Q I rx rs h
  obtain ⟨rfl, F, d1, fp1, d, m, r1, e, q⟩ := h
  cases d1 <;> simp only [un1, reduceCtorEq] at e
  rename_i z
  obtain ⟨rfl, _, a1⟩ := rep_str r1
  by_cases hl : z.length ≤ 5592405
  · rw [if_pos hl] at e
    cases e
    obtain ⟨u1, u2⟩ := upper_asc z a1
    refine mt_upper pins s σ H _ _ v us Q I rx rs ⟨_, rfl, rfl, by rw [SX.S_len]; exact hl, ?_⟩
    rw [u1]
    exact give_str m u2 q
  · rw [if_neg hl] at e; cases e
end
end Z

set_option Elab.async false
set_option linter.all false
set_option maxRecDepth 100000
namespace Z
open PySem PySem.Spec PyProof.Rows L2

/-! ### freezing -/
def fzH (F H : Hp) (fp : List Addr) : Hp := fun a => if a ∈ fp then H a else F a
section
variable {K : PySem.W.Frag} {F H F1 H1 F2 H2 : Hp} {σ : L2.St} {s s1 s2 : Env} {fps fps1 fps2 : Fps} {mv mv1 mv2 vw : List Nat} {v : V} {d : D} {fp : List Addr}
theorem fzH_in {a : Addr} (h : a ∈ fp) : fzH F H fp a = H a := if_pos h
theorem fzH_out {a : Addr} (h : a ∉ fp) : fzH F H fp a = F a := if_neg h
theorem fzH_f (m : ∀ a o, F a = some o → H a = some o) : ∀ a o, F a = some o → fzH F H fp a = some o := fun a o e => by
  by_cases h : a ∈ fp
  · rw [fzH_in h]; exact m a o e
  · rw [fzH_out h]; exact e
theorem fzH_sub (m : ∀ a o, F a = some o → H a = some o) : ∀ a o, fzH F H fp a = some o → H a = some o := fun a o e => by
  by_cases h : a ∈ fp
  · rw [fzH_in h] at e; exact e
  · rw [fzH_out h] at e; exact m a o e
theorem fzH_ne {a : Addr} (h : fzH F H fp a ≠ none) : F a ≠ none ∨ a ∈ fp := by
  by_cases q : a ∈ fp
  · exact .inr q
  · rw [fzH_out q] at h; exact .inl h
theorem Rep.frzd (m : ∀ a o, F a = some o → H a = some o) (r : Rep K F H v d fp) : Rep K (fzH F H fp) H v d.frz [] := r.frz (fzH_f m) fun a ha o e => by rw [fzH_in ha]; exact e
theorem Rep.frzo (m : ∀ a o, F a = some o → H a = some o) {w : V} {e : D} {fq : List Addr} (r : Rep K F H w e fq) (h : ∀ a ∈ fq, a ∉ fp) : Rep K (fzH F H fp) H w e fq := r.mono (fzH_f m) fun a ha => ⟨fun _ e => e, by rw [fzH_out (h a ha)]; exact (r.own a ha).1⟩
theorem get_set {s : Env} {i j : Nat} {o : Option D} (hi : i < s.length) : get (s.set i o) j = if j = i then o else get s j := by
  unfold get
  rw [List.getD_eq_getElem?_getD, List.getD_eq_getElem?_getD, List.getElem?_set]
  by_cases h : i = j
  · subst h; simp [hi]
  · have : ¬ j = i := fun e => h e.symm
    simp [h, this]
theorem get_lt {s : Env} {i : Nat} {d : D} (h : get s i = some d) : i < s.length := by
  unfold get at h
  rw [List.getD_eq_getElem?_getD] at h
  cases e : s[i]? with
  | none => rw [e] at h; cases h
  | some x => exact (List.getElem?_eq_some_iff.mp e).1
/-- a slot is frozen -/
theorem Rel.frzd (R : Rel K F H σ s fps) {i : Nat} (e : get s i = some d) :
    Rel K (fzH F H (fps i)) H σ (s.set i (some d.frz)) (fun j => if j = i then [] else fps j) ∧ Stp [i] F H s fps (fzH F H (fps i)) H (s.set i (some d.frz)) (fun j => if j = i then [] else fps j) := by
  have hi := get_lt e
  refine ⟨⟨fzH_sub R.sub, by rw [List.length_set]; exact R.len, fun j d' e' => ?_, fun j e' => ?_, fun j k hjk a ha => ?_⟩, ⟨fzH_f R.sub, fun _ _ e _ => e, fun a h => ?_, fun j hj a ha => ?_, fun j hj => ?_, fun _ e => e⟩⟩
  · rw [get_set hi] at e'
    by_cases h : j = i
    · subst h
      rw [if_pos rfl] at e'
      cases e'
      obtain ⟨v, h1, r⟩ := R.rep j d e
      exact ⟨v, h1, by simp only [if_true]; exact r.frzd R.sub⟩
    · rw [if_neg h] at e'
      obtain ⟨v, h1, r⟩ := R.rep j d' e'
      exact ⟨v, h1, by simp only [if_neg h]; exact r.frzo R.sub (R.dis j i h)⟩
  · rw [get_set hi] at e'
    by_cases h : j = i
    · simp [h]
    · rw [if_neg h] at e'; simp only [if_neg h]; exact R.nil j e'
  · by_cases h : j = i
    · simp [h] at ha
    · simp only [if_neg h] at ha
      by_cases h2 : k = i
      · simp [h2]
      · simp only [if_neg h2]; exact R.dis j k hjk a ha
  · rcases fzH_ne h with q | q
    · exact .inl q
    · exact .inr (.inr ⟨i, List.mem_singleton.mpr rfl, q⟩)
  · have : j = i := List.mem_singleton.mp hj
    simp [this] at ha
  · have : j ≠ i := fun z => hj (List.mem_singleton.mpr z)
    exact ⟨by rw [get_set hi, if_neg this], by simp [this]⟩
/-- a temporary is frozen -/
theorem Rel.frzt (R : Rel K F H σ s fps) (hn : ∀ a ∈ fp, ∀ j, a ∉ fps j) : Rel K (fzH F H fp) H σ s fps := ⟨fzH_sub R.sub, R.len, fun j d e => by
  obtain ⟨v, h1, r⟩ := R.rep j d e
  exact ⟨v, h1, r.frzo R.sub fun a ha z => hn a z j ha⟩, R.nil, R.dis⟩
theorem Stp.frzt {F0 H0 : Hp} {s0 : Env} {fps0 : Fps} (st : Stp mv F0 H0 s0 fps0 F H s fps) (m : ∀ a o, F a = some o → H a = some o) (hn : ∀ a ∈ fp, H0 a = none ∨ ∃ j ∈ mv, a ∈ fps0 j) : Stp mv F0 H0 s0 fps0 (fzH F H fp) H s fps :=
  ⟨fun a o e => fzH_f m a o (st.f a o e), st.h, fun a e => by
    rcases fzH_ne e with q | q
    · exact st.nf a q
    · exact .inr (hn a q), st.u, st.o, st.d⟩
/-- a slot is emptied -/
theorem Rel.moved (R : Rel K F H σ s fps) {i : Nat} (hi : i < s.length) :
    Rel K F H σ (s.set i none) (fun j => if j = i then [] else fps j) ∧ Stp [i] F H s fps F H (s.set i none) (fun j => if j = i then [] else fps j) := by
  refine ⟨⟨R.sub, by rw [List.length_set]; exact R.len, fun j d' e' => ?_, fun j e' => ?_, fun j k hjk a ha => ?_⟩, ⟨fun _ _ e => e, fun _ _ e _ => e, fun a h => .inl h, fun j hj a ha => ?_, fun j hj => ?_, fun _ e => e⟩⟩
  · rw [get_set hi] at e'
    by_cases h : j = i
    · rw [if_pos h] at e'; cases e'
    · rw [if_neg h] at e'
      obtain ⟨v, h1, r⟩ := R.rep j d' e'
      exact ⟨v, h1, by simp only [if_neg h]; exact r⟩
  · rw [get_set hi] at e'
    by_cases h : j = i
    · simp [h]
    · rw [if_neg h] at e'; simp only [if_neg h]; exact R.nil j e'
  · by_cases h : j = i
    · simp [h] at ha
    · simp only [if_neg h] at ha
      by_cases h2 : k = i
      · simp [h2]
      · simp only [if_neg h2]; exact R.dis j k hjk a ha
  · have : j = i := List.mem_singleton.mp hj
    simp [this] at ha
  · have : j ≠ i := fun z => hj (List.mem_singleton.mpr z)
    exact ⟨by rw [get_set hi, if_neg this], by simp [this]⟩
end

/-! ### names, constants -/
section
variable {X : Cx} {pos : Pos}
theorem se_var {i : Nat} {x : Str} (h : PE X (.Name x pos) (tVar i)) : PE X (.Name x pos) (tE X.K [] [i] fun s => R.of (get s i) s) := pe_imp h fun σ H Q h => by
  obtain ⟨F, s, fps, R, h⟩ := h
  cases e : get s i with
  | none => simp only [e, of_none] at h
  | some d =>
    simp only [e, of_some] at h
    obtain ⟨v, h1, r⟩ := R.rep i d e
    exact ⟨v, h1, h v H F fps _ R .refl ⟨r, fun a ha => .inl ⟨i, List.mem_singleton.mpr rfl, ha⟩⟩⟩
theorem se_fr {i : Nat} {x : Str} (h : PE X (.Name x pos) (tVar i)) : PE X (.Name x pos) (tE X.K [i] [] fun s => match get s i with | some d => .ok d.frz (s.set i (some d.frz)) | none => .bad) := pe_imp h fun σ H Q h => by
  obtain ⟨F, s, fps, R, h⟩ := h
  cases e : get s i with
  | none => simp only [e] at h
  | some d =>
    simp only [e] at h
    obtain ⟨v, h1, r⟩ := R.rep i d e
    obtain ⟨R', st⟩ := R.frzd e
    exact ⟨v, h1, h v H _ _ [] R' st ⟨r.frzd R.sub, fun a ha => nomatch ha⟩⟩
theorem se_mov {i : Nat} {x : Str} (h : PE X (.Name x pos) (tVar i)) : PE X (.Name x pos) (tE X.K [i] [] fun s => match get s i with | some d => .ok d (s.set i none) | none => .bad) := pe_imp h fun σ H Q h => by
  obtain ⟨F, s, fps, R, h⟩ := h
  cases e : get s i with
  | none => simp only [e] at h
  | some d =>
    simp only [e] at h
    obtain ⟨v, h1, r⟩ := R.rep i d e
    obtain ⟨R', st⟩ := R.moved (get_lt e)
    refine ⟨v, h1, h v H _ _ _ R' st ⟨r, fun a ha => .inr ⟨fun j z => ?_, .inr ⟨i, List.mem_singleton.mpr rfl, ha⟩⟩⟩⟩
    by_cases hj : j = i
    · simp [hj] at z
    · simp only [if_neg hj] at z
      exact R.dis i j (fun q => hj q.symm) a ha z
theorem se_c {e : Expr} {v : V} {d : D} (h : PE X e (tC v)) (r : ∀ F H, Rep X.K F H v d []) : PE X e (tE X.K [] [] fun s => .ok d s) := pe_imp h fun σ H Q h => by
  obtain ⟨F, s, fps, R, h⟩ := h
  exact h v H F fps [] R .refl ⟨r F H, fun a ha => nomatch ha⟩
theorem se_weak {e : Expr} {mv vw mv' vw' : List Nat} {f : Env → R D} (h : PE X e (tE X.K mv vw f)) (m : ∀ j ∈ mv, j ∈ mv') (w : ∀ j ∈ vw, j ∈ vw') : PE X e (tE X.K mv' vw' f) := pe_imp h fun σ H Q h => by
  obtain ⟨F, s, fps, R, h⟩ := h
  refine ⟨F, s, fps, R, ?_⟩
  cases e : f s with
  | exc x s' => rw [e] at h; exact h
  | bad => rw [e] at h; exact h
  | ok d s' =>
    rw [e] at h
    exact fun v H' F' fps' fp R' st rs => h v H' F' fps' fp R' (st.weak m) ⟨rs.rep, fun a ha => by
      rcases rs.fr a ha with ⟨j, hj, q⟩ | ⟨q, y⟩
      · exact .inl ⟨j, w j hj, q⟩
      · refine .inr ⟨q, ?_⟩
        rcases y with y | ⟨j, hj, y⟩
        · exact .inl y
        · exact .inr ⟨j, m j hj, y⟩⟩
/-- owns nothing -/
theorem se_val {e : Expr} {mv vw : List Nat} {f : Env → R D} (h : PE X e (tE X.K mv vw f)) : PE X e (tE X.K mv [] fun s => (f s).bind fun d s => if d.own then .bad else .ok d s) := pe_imp h fun σ H Q h => by
  obtain ⟨F, s, fps, R, h⟩ := h
  refine ⟨F, s, fps, R, ?_⟩
  try dsimp only at h
  cases e : f s with
  | exc x s' => rw [e] at h; exact h
  | bad => rw [e] at h; exact h
  | ok d s' =>
    rw [e] at h
    simp only [bind_ok] at h
    cases ho : d.own with
    | true => rw [ho] at h; exact h.elim
    | false =>
      rw [ho] at h
      exact fun v H' F' fps' fp R' st rs => h v H' F' fps' [] R' st ⟨fp_nil rs.rep ho, fun a ha => nomatch ha⟩
/-- a temporary is frozen -/
theorem se_fz {e : Expr} {mv : List Nat} {f : Env → R D} (h : PE X e (tE X.K mv [] f)) : PE X e (tE X.K mv [] fun s => (f s).bind fun d s => .ok d.frz s) := pe_imp h fun σ H Q h => by
  obtain ⟨F, s, fps, R, h⟩ := h
  refine ⟨F, s, fps, R, ?_⟩
  try dsimp only at h
  cases e : f s with
  | exc x s' => rw [e] at h; exact h
  | bad => rw [e] at h; exact h
  | ok d s' =>
    rw [e] at h
    simp only [bind_ok] at h
    refine fun v H' F' fps' fp R' st rs => ?_
    have hn : ∀ a ∈ fp, (∀ j, a ∉ fps' j) ∧ (H a = none ∨ ∃ j ∈ mv, a ∈ fps j) := fun a ha => by
      rcases rs.fr a ha with ⟨j, hj, _⟩ | q
      · cases hj
      · exact q
    exact h v H' _ fps' [] (R'.frzt fun a ha => (hn a ha).1) (st.frzt R'.sub fun a ha => (hn a ha).2) ⟨rs.rep.frzd R'.sub, fun a ha => nomatch ha⟩

/-! ### operations -/
theorem se_un {e : Expr} {x : Expr} {mva vwa : List Nat} {fa : Env → R D} {g : D → Option D} (h : PE X e (tUn (rU X.K g false) (tE X.K mva vwa fa))) : PE X e (tE X.K mva [] fun s => (fa s).bind fun x s => R.of (g x) s) := pe_imp h fun σ H Q h => tE_un (vf := false) h
theorem se_op {e : Expr} {mva vwa mvb vwb : List Nat} {fa fb : Env → R D} {k : Bool} {g : D → D → Option D} (hk : k = true ∨ disj vwa mvb = true) (h : PE X e (tOp (rO X.K g false) (tE X.K mva vwa fa) (tE X.K mvb vwb fb))) :
    PE X e (tE X.K (mva ++ mvb) [] fun s => (fa s).bind fun x s => (fb s).bind fun y s => if k && x.own then .bad else R.of (g x y) s) := pe_imp h fun σ H Q h => tE_two (vf := false) hk h
theorem se_opv {e : Expr} {mva vwa mvb vwb : List Nat} {fa fb : Env → R D} {k : Bool} {g : D → D → Option D} (hk : k = true ∨ disj vwa mvb = true) (h : PE X e (tOp (rO X.K g true) (tE X.K mva vwa fa) (tE X.K mvb vwb fb))) :
    PE X e (tE X.K (mva ++ mvb) vwa fun s => (fa s).bind fun x s => (fb s).bind fun y s => if k && x.own then .bad else R.of (g x y) s) := pe_imp h fun σ H Q h => tE_two (vf := true) hk h
end

/-! ### arguments -/
def tA (K : PySem.W.Frag) (mv : List Nat) (f : Env → R (List D)) : TA := fun σ H Q => ∃ F s fps, Rel K F H σ s fps ∧ match f s with
  | .ok ds s' => ∀ vs H' F' fps' fp, Rel K F' H' σ s' fps' → Stp mv F H s fps F' H' s' fps' → Reps K F' H' vs ds fp → (∀ a ∈ fp, (∀ j, a ∉ fps' j) ∧ (H a = none ∨ ∃ j ∈ mv, a ∈ fps j)) → Q vs H'
  | _ => False
theorem pa_imp {X : Cx} {es : List Expr} {t t' : TA} (h : PA X es t) (i : ∀ σ H Q, t' σ H Q → t σ H Q) : PA X es t' := ⟨fun pos pins s σ H Q I q => h.run pos pins s σ H Q I (i _ _ _ q)⟩
theorem disj_nil {mv : List Nat} : disj [] mv = true := rfl
section
variable {X : Cx} {pos : Pos}
theorem sa_nil : PA X [] (tA X.K [] fun s => .ok [] s) := pa_imp pa_nil fun σ H Q h => by
  obtain ⟨F, s, fps, R, h⟩ := h
  exact h [] H F fps [] R .refl .nil fun a ha => nomatch ha
theorem sa_cons {e : Expr} {es : List Expr} {mva mvb : List Nat} {fa : Env → R D} {fb : Env → R (List D)} (ha : PE X e (tE X.K mva [] fa)) (hb : PA X es (tA X.K mvb fb)) (hs : starEach (e :: es) X.env = (false, eval e X.env) :: starEach es X.env) :
    PA X (e :: es) (tA X.K (mva ++ mvb) fun s => (fa s).bind fun d s => (fb s).bind fun ds s => .ok (d :: ds) s) := pa_imp (pa_cons ha hb hs) fun σ H Q h => by
  obtain ⟨F, s, fps, R, h⟩ := h
  refine ⟨F, s, fps, R, ?_⟩
  try dsimp only at h
  cases ea : fa s with
  | exc x s' => rw [ea] at h; exact h
  | bad => rw [ea] at h; exact h
  | ok d s1 =>
    rw [ea] at h
    simp only [bind_ok] at h
    refine fun x H1 F1 fps1 fp1 R1 st1 rs1 => ⟨F1, s1, fps1, R1, ?_⟩
    cases eb : fb s1 with
    | exc x s' => rw [eb] at h; exact h
    | bad => rw [eb] at h; exact h
    | ok ds s2 =>
      rw [eb] at h
      simp only [bind_ok] at h
      refine fun ys H2 F2 fps2 fp2 R2 st2 rs2 hf => ?_
      have r := rs1.on R1 st2 (.inl disj_nil)
      refine h (x :: ys) H2 F2 fps2 (fp1 ++ fp2) R2 (st1.trans st2) (.cons r.rep rs2 fun a ha z => ?_) fun a ha => ?_
      · obtain ⟨_, o, ho, _⟩ := rs1.rep.own a ha
        rcases (hf a z).2 with q | ⟨j, _, q⟩
        · rw [ho] at q; cases q
        · rcases rs1.fr a ha with ⟨j, hj, _⟩ | ⟨y, _⟩
          · cases hj
          · exact y j q
      · rcases List.mem_append.mp ha with ha | ha
        · rcases r.fr a ha with ⟨j, hj, _⟩ | q
          · cases hj
          · exact q
        · refine ⟨(hf a ha).1, ?_⟩
          rcases (hf a ha).2 with q | ⟨j, hj, q⟩
          · exact .inl (st1.d a q)
          · rcases st1.back q with y | ⟨i, hi, y⟩ | ⟨_, y⟩
            · exact .inl y
            · exact .inr ⟨i, List.mem_append_left _ hi, y⟩
            · exact .inr ⟨j, List.mem_append_right _ hj, y⟩
theorem se_tup {es : List Expr} {x1 : Nat} {mv : List Nat} {f : Env → R (List D)} (h : PA X es (tA X.K mv f)) (hl : ∀ s ds s', f s = .ok ds s' → ds.length ≤ SL) : PE X (.Tuple es x1 pos) (tE X.K mv [] fun s => (f s).bind fun ds s => .ok (.tup ds) s) := pe_imp (pe_tup h) fun σ H Q h => by
  obtain ⟨F, s, fps, R, h⟩ := h
  refine ⟨F, s, fps, R, ?_⟩
  try dsimp only at h
  cases e : f s with
  | exc x s' => rw [e] at h; exact h
  | bad => rw [e] at h; exact h
  | ok ds s' =>
    rw [e] at h
    simp only [bind_ok] at h
    refine fun vs H' F' fps' fp R' st rs hf => ⟨by rw [rs.len, sl_eq]; exact hl s ds s' e, fun p hp => ?_⟩
    have x := Ext.frz (o := .tup vs) R'.sub hp
    have st2 := st.trans (x.stp (mv := []) (s := s') (fps := fps'))
    rw [List.append_nil] at st2
    exact h (.ref p) _ _ fps' fp (R'.ext x) st2 ⟨.tup (SqT.of upd_same) (rs.ext x), fun a ha => .inr (hf a ha)⟩
theorem se_lst {es : List Expr} {mv : List Nat} {f : Env → R (List D)} (h : PA X es (tA X.K mv f)) (hl : ∀ s ds s', f s = .ok ds s' → ds.length ≤ SL) : PE X (.List es pos) (tE X.K mv [] fun s => (f s).bind fun ds s => .ok (.lst true ds) s) := pe_imp (pe_lst h) fun σ H Q h => by
  obtain ⟨F, s, fps, R, h⟩ := h
  refine ⟨F, s, fps, R, ?_⟩
  try dsimp only at h
  cases e : f s with
  | exc x s' => rw [e] at h; exact h
  | bad => rw [e] at h; exact h
  | ok ds s' =>
    rw [e] at h
    simp only [bind_ok] at h
    refine fun vs H' F' fps' fp R' st rs hf => ⟨by rw [rs.len, sl_eq]; exact hl s ds s' e, fun p hp => ?_⟩
    have x := Ext.own (o := .lst vs) R'.sub hp
    have st2 := st.trans (x.stp (mv := []) (s := s') (fps := fps'))
    rw [List.append_nil] at st2
    have hfp : F' p = none := by
      cases e : F' p with
      | none => rfl
      | some o => rw [R'.sub _ _ e] at hp; cases hp
    have hno : p ∉ fp := fun z => by
      obtain ⟨_, o, ho, _⟩ := rs.own p z
      rw [hp] at ho; cases ho
    refine h (.ref p) _ _ fps' (p :: fp) (R'.ext x) st2 ⟨.lstO upd_same hfp (rs.ext x) hno, fun a ha => .inr ?_⟩
    rcases List.mem_cons.mp ha with z | z
    · subst z
      refine ⟨fun j z => ?_, .inl (st.d a hp)⟩
      obtain ⟨_, o, ho, _⟩ := R'.there z
      rw [hp] at ho; cases ho
    · exact hf a z
end
end Z

set_option Elab.async false
set_option linter.all false
set_option maxRecDepth 100000
namespace Z
open PySem PySem.Spec PyProof.Rows L2

section
variable {X : Cx} {pos : Pos}
/-! ### slices -/
def tP (K : PySem.W.Frag) (mv : List Nat) (p : Bool) (f : Env → R D) : TO := fun σ H Q => ∃ F s fps, Rel K F H σ s fps ∧ match f s with
  | .ok d s' => (match endOf p d with
    | some l => ∀ H' F' fps', Rel K F' H' σ s' fps' → Stp mv F H s fps F' H' s' fps' → Q l H'
    | none => False)
  | _ => False
theorem po_imp {e : Option Expr} {t t' : TO} (h : PO X e t) (i : ∀ σ H Q, t' σ H Q → t σ H Q) : PO X e t' := ⟨fun pins s σ H Q I q => h.run pins s σ H Q I (i _ _ _ q)⟩
theorem sp_none : PO X none (tP X.K [] false fun s => .ok .non s) := po_imp po_none fun σ H Q h => by
  obtain ⟨F, s, fps, R, h⟩ := h
  exact h H F fps R .refl
theorem sp_some {e : Expr} {mv vw : List Nat} {f : Env → R D} (h : PE X e (tE X.K mv vw f)) : PO X (some e) (tP X.K mv true f) := po_imp (po_some h) fun σ H Q h => by
  obtain ⟨F, s, fps, R, h⟩ := h
  refine ⟨F, s, fps, R, ?_⟩
  cases e : f s with
  | exc x s' => rw [e] at h; exact h
  | bad => rw [e] at h; exact h
  | ok d s' =>
    rw [e] at h
    refine fun v H' F' fps' fp R' st rs => ?_
    cases d <;> simp only [endOf] at h
    obtain ⟨rfl, _⟩ := rep_int rs.rep
    exact ⟨_, rfl, h H' F' fps' R' st⟩
theorem se_slc {e : Expr} {lo hi : Option Expr} {p2 : Pos} {mva vwa mvb mvc : List Nat} {p q : Bool} {fa fb fc : Env → R D} (ha : PE X e (tE X.K mva vwa fa)) (hb : PO X lo (tP X.K mvb p fb)) (hc : PO X hi (tP X.K mvc q fc)) :
    PE X (.Subscript e (.Slice lo hi none p2) pos) (tE X.K (mva ++ mvb ++ mvc) [] fun s => (fa s).bind fun x s => (fb s).bind fun l s => (fc s).bind fun h s => if x.own then .bad else R.of (slice3 p q x l h) s) :=
  pe_imp (pe_slice sr_sl ha hb hc) fun σ H Q h => by
  obtain ⟨F, s, fps, R, h⟩ := h
  refine ⟨F, s, fps, R, ?_⟩
  try dsimp only at h
  cases ea : fa s with
  | exc x s' => rw [ea] at h; exact h
  | bad => rw [ea] at h; exact h
  | ok d1 s1 =>
    rw [ea] at h
    simp only [bind_ok] at h
    refine fun x H1 F1 fps1 fp1 R1 st1 rs1 => ⟨F1, s1, fps1, R1, ?_⟩
    cases eb : fb s1 with
    | exc x s' => rw [eb] at h; exact h
    | bad => rw [eb] at h; exact h
    | ok d2 s2 =>
      rw [eb] at h
      simp only [bind_ok] at h
      try dsimp only
      cases el : endOf p d2 with
      | none =>
        try dsimp only
        cases ec : fc s2 with
        | exc x s' => rw [ec] at h; exact h
        | bad => rw [ec] at h; exact h
        | ok d3 s3 =>
          rw [ec] at h
          simp only [bind_ok, slice3, el, Option.bind_none, of_none, ite_self] at h
      | some l =>
        refine fun H2 F2 fps2 R2 st2 => ⟨F2, s2, fps2, R2, ?_⟩
        cases ec : fc s2 with
        | exc x s' => rw [ec] at h; exact h
        | bad => rw [ec] at h; exact h
        | ok d3 s3 =>
          rw [ec] at h
          simp only [bind_ok, slice3, el, Option.bind_some] at h
          cases ho : d1.own with
          | true => rw [ho] at h; exact h.elim
          | false =>
            rw [ho] at h
            simp only [Bool.false_eq_true, if_false] at h
            cases er : endOf q d3 with
            | none => rw [er] at h; exact h.elim
            | some r =>
              rw [er] at h
              simp only [Option.bind_some] at h
              try dsimp only
              rw [er]
              refine fun H3 F3 fps3 R3 st3 => ?_
              cases eg : slice2 d1 l r with
              | none => rw [eg] at h; exact h.elim
              | some d =>
                rw [eg] at h
                have rs2 := (rs1.on R1 st2 (.inr ho)).on R2 st3 (.inr ho)
                exact ⟨F3, d1, fp1, d, R3.sub, rs2.rep, eg, give_res (vf := false) (vwa := vwa) R3 ((st1.trans st2).trans st3) rs2 h⟩

/-! ### tests -/
theorem pt_of {e : Expr} {mv vw : List Nat} {f : Env → R D} {t : TE} (h : PT X e (tB t)) (i : ∀ σ H Q, tE X.K mv vw f σ H Q → t σ H Q) : PT X e (tT X.K mv f) := pt_imp h fun σ H Q h => by
  refine i σ H _ ?_
  obtain ⟨F, s, fps, R, h⟩ := h
  refine ⟨F, s, fps, R, ?_⟩
  cases e : f s with
  | exc x s' => rw [e] at h; exact h
  | bad => rw [e] at h; exact h
  | ok d s' =>
    rw [e] at h
    refine fun v H' F' fps' fp R' st rs => ?_
    cases d <;> simp only [asB] at h
    obtain ⟨rfl, _⟩ := rep_bl rs.rep
    exact ⟨_, rfl, h H' F' fps' R' st⟩
theorem st_val {e : Expr} {mv vw : List Nat} {f : Env → R D} (h : PE X e (tE X.K mv vw f)) (he : ∀ whole, isTrue e X.env whole = (do let v ← whole; standAt e.pos; holding [v] (truthy v))) : PT X e (tT X.K mv f) := pt_of (pt_val h he) fun σ H Q h => h
theorem asB_some {d : D} {b : Bool} (h : asB d = some b) : d = .bl b := by
  cases d <;> simp only [asB, reduceCtorEq, Option.some.injEq] at h
  rw [h]
/-- not -/
def fNot (f : Env → R D) : Env → R D := fun s => (f s).bind fun x s => R.of (un1 .not x) s
def fAnd (fa fb : Env → R D) : Env → R D := fun s => (fa s).bind fun x s => match asB x with
    | some true => fb s
    | some false => .ok (.bl false) s
    | none => .bad
def fOr (fa fb : Env → R D) : Env → R D := fun s => (fa s).bind fun x s => match asB x with
    | some false => fb s
    | some true => .ok (.bl true) s
    | none => .bad
def fIte (fc fa fb : Env → R D) : Env → R D := fun s => (fc s).bind fun x s => match asB x with
    | some true => fa s
    | some false => fb s
    | none => .bad
theorem st_not {e : Expr} {mv : List Nat} {f : Env → R D} (h : PT X e (tT X.K mv f)) : PT X (.UnaryOp .Not e pos) (tT X.K mv (fNot f)) := pt_imp (pt_not h) fun σ H Q h => by
  obtain ⟨F, s, fps, R, h⟩ := h
  refine ⟨F, s, fps, R, ?_⟩
  try dsimp only [fNot] at h
  cases e : f s with
  | exc x s' => rw [e] at h; exact h
  | bad => rw [e] at h; exact h
  | ok d s' =>
    rw [e] at h
    simp only [bind_ok] at h
    cases d <;> simp only [un1, of_none, of_some, asB] at h ⊢
    exact h
theorem se_not {e : Expr} {mv vw : List Nat} {f : Env → R D} (h : PE X e (tE X.K mv vw f)) : PE X (.UnaryOp .Not e pos) (tE X.K mv [] (fNot f)) := pe_imp (pe_not h) fun σ H Q h => by
  obtain ⟨F, s, fps, R, h⟩ := h
  refine ⟨F, s, fps, R, ?_⟩
  try dsimp only [fNot] at h
  cases e : f s with
  | exc x s' => rw [e] at h; exact h
  | bad => rw [e] at h; exact h
  | ok d s' =>
    rw [e] at h
    simp only [bind_ok] at h
    refine fun v H' F' fps' fp R' st rs => ?_
    cases d <;> simp only [un1, of_none, of_some] at h
    obtain ⟨rfl, _⟩ := rep_bl rs.rep
    exact ⟨_, rfl, h _ H' F' fps' [] R' st ⟨.bl _, fun a ha => nomatch ha⟩⟩
theorem mem_left {a b : List Nat} : ∀ j ∈ a, j ∈ a ++ b := fun j h => List.mem_append_left _ h
theorem mem_right {a b : List Nat} : ∀ j ∈ b, j ∈ a ++ b := fun j h => List.mem_append_right _ h
/-- e behind an evaluation -/
theorem tE_later {K : PySem.W.Frag} {mv1 mv vw : List Nat} {f : Env → R D} {σ : L2.St} {F H F1 H1 : Hp} {s s1 : Env} {fps fps1 : Fps} {Q : VK} (R1 : Rel K F1 H1 σ s1 fps1) (st1 : Stp mv1 F H s fps F1 H1 s1 fps1)
    (h : match f s1 with
      | .ok d s' => ∀ v H' F' fps' fp, Rel K F' H' σ s' fps' → Stp (mv1 ++ mv) F H s fps F' H' s' fps' → Res K (mv1 ++ mv) vw H fps F' H' fps' v d fp → Q v H'
      | _ => False) : tE K mv vw f σ H1 Q := by
  refine ⟨F1, s1, fps1, R1, ?_⟩
  cases e : f s1 with
  | exc x s' => rw [e] at h; exact h
  | bad => rw [e] at h; exact h
  | ok d s' =>
    rw [e] at h
    exact fun v H' F' fps' fp R' st rs => h v H' F' fps' fp R' (st1.trans st) (rs.later st1)
theorem tT_later {K : PySem.W.Frag} {mv1 mv : List Nat} {f : Env → R D} {σ : L2.St} {F H F1 H1 : Hp} {s s1 : Env} {fps fps1 : Fps} {Q : Bool → Hp → Prop} (R1 : Rel K F1 H1 σ s1 fps1) (st1 : Stp mv1 F H s fps F1 H1 s1 fps1)
    (h : match f s1 with
      | .ok d s' => (match asB d with
        | some b => ∀ H' F' fps', Rel K F' H' σ s' fps' → Stp (mv1 ++ mv) F H s fps F' H' s' fps' → Q b H'
        | none => False)
      | _ => False) : tT K mv f σ H1 Q := by
  refine ⟨F1, s1, fps1, R1, ?_⟩
  cases e : f s1 with
  | exc x s' => rw [e] at h; exact h
  | bad => rw [e] at h; exact h
  | ok d s' =>
    rw [e] at h
    try dsimp only at h ⊢
    cases eb : asB d with
    | none => rw [eb] at h; exact h
    | some b =>
      rw [eb] at h
      exact fun H' F' fps' R' st => h H' F' fps' R' (st1.trans st)
theorem res_weak {K : PySem.W.Frag} {mv1 mv2 vw1 vw2 : List Nat} {H F' H' : Hp} {fps fps' : Fps} {v : V} {d : D} {fp : List Addr} (r : Res K mv1 vw1 H fps F' H' fps' v d fp) (m : ∀ j ∈ mv1, j ∈ mv2) (w : ∀ j ∈ vw1, j ∈ vw2) : Res K mv2 vw2 H fps F' H' fps' v d fp :=
  ⟨r.rep, fun a ha => by
    rcases r.fr a ha with ⟨j, hj, q⟩ | ⟨q, y⟩
    · exact .inl ⟨j, w j hj, q⟩
    · refine .inr ⟨q, ?_⟩
      rcases y with y | ⟨j, hj, y⟩
      · exact .inl y
      · exact .inr ⟨j, m j hj, y⟩⟩
theorem se_and {a b : Expr} {rest : List Expr} {mva vwa mvb vwb : List Nat} {fa fb : Env → R D} (ha : PE X a (tE X.K mva vwa fa)) (hb : PE X (.BoolOp .And (b :: rest) pos) (tE X.K mvb vwb fb)) :
    PE X (.BoolOp .And (a :: b :: rest) pos) (tE X.K (mva ++ mvb) vwb (fAnd fa fb)) := pe_imp (pe_and ha hb) fun σ H Q h => by
  obtain ⟨F, s, fps, R, h⟩ := h
  refine ⟨F, s, fps, R, ?_⟩
  try dsimp only [fAnd] at h
  cases e : fa s with
  | exc x s' => rw [e] at h; exact h
  | bad => rw [e] at h; exact h
  | ok d s' =>
    rw [e] at h
    simp only [bind_ok] at h
    refine fun v H' F' fps' fp R' st rs => ?_
    cases d <;> simp only [asB] at h
    rename_i c
    obtain ⟨rfl, _⟩ := rep_bl rs.rep
    refine ⟨c, rfl, ?_⟩
    cases c with
    | true => exact tE_later R' st h
    | false => exact h _ H' F' fps' [] R' (st.weak mem_left) ⟨.bl _, fun a ha => nomatch ha⟩
theorem se_or {a b : Expr} {rest : List Expr} {mva vwa mvb vwb : List Nat} {fa fb : Env → R D} (ha : PE X a (tE X.K mva vwa fa)) (hb : PE X (.BoolOp .Or (b :: rest) pos) (tE X.K mvb vwb fb)) :
    PE X (.BoolOp .Or (a :: b :: rest) pos) (tE X.K (mva ++ mvb) vwb (fOr fa fb)) := pe_imp (pe_or ha hb) fun σ H Q h => by
  obtain ⟨F, s, fps, R, h⟩ := h
  refine ⟨F, s, fps, R, ?_⟩
  try dsimp only [fOr] at h
  cases e : fa s with
  | exc x s' => rw [e] at h; exact h
  | bad => rw [e] at h; exact h
  | ok d s' =>
    rw [e] at h
    simp only [bind_ok] at h
    refine fun v H' F' fps' fp R' st rs => ?_
    cases d <;> simp only [asB] at h
    rename_i c
    obtain ⟨rfl, _⟩ := rep_bl rs.rep
    refine ⟨c, rfl, ?_⟩
    cases c with
    | false => exact tE_later R' st h
    | true => exact h _ H' F' fps' [] R' (st.weak mem_left) ⟨.bl _, fun a ha => nomatch ha⟩
theorem st_and {a b : Expr} {rest : List Expr} {mva mvb : List Nat} {fa fb : Env → R D} (ha : PT X a (tT X.K mva fa)) (hb : PW X (.BoolOp .And (b :: rest) pos) (tT X.K mvb fb)) :
    PW X (.BoolOp .And (a :: b :: rest) pos) (tT X.K (mva ++ mvb) (fAnd fa fb)) := pw_imp (pw_and ha hb) fun σ H Q h => by
  obtain ⟨F, s, fps, R, h⟩ := h
  refine ⟨F, s, fps, R, ?_⟩
  try dsimp only [fAnd] at h
  cases e : fa s with
  | exc x s' => rw [e] at h; exact h
  | bad => rw [e] at h; exact h
  | ok d s' =>
    rw [e] at h
    simp only [bind_ok] at h
    try dsimp only
    cases eb : asB d with
    | none => rw [eb] at h; exact h
    | some c =>
      rw [eb] at h
      refine fun H' F' fps' R' st => ?_
      cases c with
      | true => exact tT_later R' st h
      | false => exact h H' F' fps' R' (st.weak mem_left)
theorem st_or {a b : Expr} {rest : List Expr} {mva mvb : List Nat} {fa fb : Env → R D} (ha : PT X a (tT X.K mva fa)) (hb : PW X (.BoolOp .Or (b :: rest) pos) (tT X.K mvb fb)) :
    PW X (.BoolOp .Or (a :: b :: rest) pos) (tT X.K (mva ++ mvb) (fOr fa fb)) := pw_imp (pw_or ha hb) fun σ H Q h => by
  obtain ⟨F, s, fps, R, h⟩ := h
  refine ⟨F, s, fps, R, ?_⟩
  try dsimp only [fOr] at h
  cases e : fa s with
  | exc x s' => rw [e] at h; exact h
  | bad => rw [e] at h; exact h
  | ok d s' =>
    rw [e] at h
    simp only [bind_ok] at h
    try dsimp only
    cases eb : asB d with
    | none => rw [eb] at h; exact h
    | some c =>
      rw [eb] at h
      refine fun H' F' fps' R' st => ?_
      cases c with
      | false => exact tT_later R' st h
      | true => exact h H' F' fps' R' (st.weak mem_left)
theorem se_ite {c a b : Expr} {mvc mva vwa mvb vwb : List Nat} {fc fa fb : Env → R D} (hc : PT X c (tT X.K mvc fc)) (ha : PE X a (tE X.K mva vwa fa)) (hb : PE X b (tE X.K mvb vwb fb)) :
    PE X (.IfExp c a b pos) (tE X.K (mvc ++ (mva ++ mvb)) (vwa ++ vwb) (fIte fc fa fb)) := pe_imp (pe_ifExp hc ha hb) fun σ H Q h => by
  obtain ⟨F, s, fps, R, h⟩ := h
  refine ⟨F, s, fps, R, ?_⟩
  try dsimp only [fIte] at h
  cases e : fc s with
  | exc x s' => rw [e] at h; exact h
  | bad => rw [e] at h; exact h
  | ok d s' =>
    rw [e] at h
    simp only [bind_ok] at h
    try dsimp only
    cases eb : asB d with
    | none => rw [eb] at h; exact h
    | some c =>
      rw [eb] at h
      refine fun H' F' fps' R' st => ?_
      have mm : ∀ {m : List Nat}, (∀ j ∈ m, j ∈ mva ++ mvb) → ∀ j ∈ mvc ++ m, j ∈ mvc ++ (mva ++ mvb) := fun k j hj => by
        rcases List.mem_append.mp hj with q | q
        · exact List.mem_append_left _ q
        · exact List.mem_append_right _ (k j q)
      cases c with
      | true =>
        refine tE_later (mv1 := mvc) (F := F) (H := H) (s := s) (fps := fps) R' st ?_
        cases ea : fa s' with
        | exc x s' => rw [ea] at h; exact h
        | bad => rw [ea] at h; exact h
        | ok d2 s2 =>
          rw [ea] at h
          exact fun v H2 F2 fps2 fp2 R2 st2 rs2 => h v H2 F2 fps2 fp2 R2 (st2.weak (mm mem_left)) (res_weak rs2 (mm mem_left) mem_left)
      | false =>
        refine tE_later (mv1 := mvc) (F := F) (H := H) (s := s) (fps := fps) R' st ?_
        cases ea : fb s' with
        | exc x s' => rw [ea] at h; exact h
        | bad => rw [ea] at h; exact h
        | ok d2 s2 =>
          rw [ea] at h
          exact fun v H2 F2 fps2 fp2 R2 st2 rs2 => h v H2 F2 fps2 fp2 R2 (st2.weak (mm mem_right)) (res_weak rs2 (mm mem_right) mem_right)
/-! ### a o b p c -/
def fChain (g g' : D → D → Option D) (fa fb fc : Env → R D) : Env → R D := fun s => (fa s).bind fun x s => (fb s).bind fun y s => if x.own || y.own then .bad else (R.of (g x y) s).bind fun z s => match asB z with
    | some true => (fc s).bind fun w s => R.of (g' y w) s
    | some false => .ok (.bl false) s
    | none => .bad
theorem tE_chain {K : PySem.W.Frag} {mva vwa mvb vwb mvc vwc : List Nat} {fa fb fc : Env → R D} {g g' : D → D → Option D} (hg : ∀ x y z, g x y = some z → ∃ b, z = .bl b) {σ : L2.St} {H : Hp} {Q : VK} (h : tE K (mva ++ mvb ++ mvc) [] (fChain g g' fa fb fc) σ H Q) :
    tChain (rO K g false) (rO K g' false) (tE K mva vwa fa) (tE K mvb vwb fb) (tE K mvc vwc fc) σ H Q := by
  obtain ⟨F, s, fps, R, h⟩ := h
  refine ⟨F, s, fps, R, ?_⟩
  try dsimp only [fChain] at h
  cases ea : fa s with
  | exc x s' => rw [ea] at h; exact h
  | bad => rw [ea] at h; exact h
  | ok d1 s1 =>
    rw [ea] at h
    simp only [bind_ok] at h
    refine fun x H1 F1 fps1 fp1 R1 st1 rs1 => ⟨F1, s1, fps1, R1, ?_⟩
    cases eb : fb s1 with
    | exc x s' => rw [eb] at h; exact h
    | bad => rw [eb] at h; exact h
    | ok d2 s2 =>
      rw [eb] at h
      simp only [bind_ok] at h
      refine fun y H2 F2 fps2 fp2 R2 st2 rs2 => ?_
      by_cases ho : (d1.own || d2.own) = true
      · rw [if_pos ho] at h; exact h.elim
      · rw [if_neg ho] at h
        simp only [Bool.or_eq_true, not_or, Bool.not_eq_true] at ho
        have rs1' := rs1.on R1 st2 (.inr ho.1)
        cases eg : g d1 d2 with
        | none => rw [eg] at h; exact h.elim
        | some z =>
          rw [eg] at h
          obtain ⟨b, rfl⟩ := hg _ _ _ eg
          simp only [of_some, bind_ok, asB] at h
          refine ⟨F2, d1, fp1, d2, fp2, .bl b, R2.sub, rs1'.rep, rs2.rep, eg, fun v H3 F3 fp x3 r3 k3 => ?_⟩
          obtain ⟨rfl, _⟩ := rep_bl r3
          have R3 := R2.ext x3
          have st3 : Stp (mva ++ mvb) F H s fps F3 H3 s2 fps2 := by
            have q := (st1.trans st2).trans (x3.stp (mv := []) (s := s2) (fps := fps2))
            rw [List.append_nil] at q
            exact q
          refine ⟨b, rfl, ?_⟩
          cases b with
          | false => exact h _ H3 F3 fps2 [] R3 (st3.weak mem_left) ⟨.bl _, fun a ha => nomatch ha⟩
          | true =>
            refine ⟨F3, s2, fps2, R3, ?_⟩
            cases ec : fc s2 with
            | exc x s' => rw [ec] at h; exact h
            | bad => rw [ec] at h; exact h
            | ok d3 s3 =>
              rw [ec] at h
              simp only [bind_ok] at h
              refine fun w H4 F4 fps4 fp4 R4 st4 rs4 => ?_
              cases eg' : g' d2 d3 with
              | none => rw [eg'] at h; exact h.elim
              | some d =>
                rw [eg'] at h
                simp only [of_some] at h
                have r2 : Rep K F4 H4 y d2 [] := ((fp_nil rs2.rep ho.2).ext x3).still st4.f
                exact ⟨F4, d2, [], d3, fp4, d, R4.sub, r2, rs4.rep, eg', give_res (vf := false) (vwa := []) R4 (st3.trans st4) ⟨r2, fun a ha => nomatch ha⟩ h⟩
theorem se_chain {op op' : CmpOp} {a b c : Expr} {mva vwa mvb vwb mvc vwc : List Nat} {fa fb fc : Env → R D} {g g' : D → D → Option D} (hg : ∀ x y z, g x y = some z → ∃ b, z = .bl b) (ho : OpR X (compareOp op) (rO X.K g false)) (ho' : OpR X (compareOp op') (rO X.K g' false))
    (ha : PE X a (tE X.K mva vwa fa)) (hb : PE X b (tE X.K mvb vwb fb)) (hc : PE X c (tE X.K mvc vwc fc)) (hm : lastMarks [op, op'] [b, c] = false) : PE X (.Compare a [op, op'] [b, c] pos) (tE X.K (mva ++ mvb ++ mvc) [] (fChain g g' fa fb fc)) :=
  pe_imp (pe_chain ho ho' ha hb hc hm) fun σ H Q h => tE_chain hg h
theorem st_chain {op op' : CmpOp} {a b c : Expr} {mva vwa mvb vwb mvc vwc : List Nat} {fa fb fc : Env → R D} {g g' : D → D → Option D} (hg : ∀ x y z, g x y = some z → ∃ b, z = .bl b) (ho : OpR X (compareOp op) (rO X.K g false)) (ho' : OpR X (compareOp op') (rO X.K g' false))
    (ha : PE X a (tE X.K mva vwa fa)) (hb : PE X b (tE X.K mvb vwb fb)) (hc : PE X c (tE X.K mvc vwc fc)) (hm : lastMarks [op, op'] [b, c] = false) : PT X (.Compare a [op, op'] [b, c] pos) (tT X.K (mva ++ mvb ++ mvc) (fChain g g' fa fb fc)) :=
  pt_of (vw := []) (t := tChain _ _ _ _ _) (pt_chain ho ho' ha hb hc hm) fun σ H Q h => tE_chain hg h
theorem st_cmp {op : CmpOp} {a b : Expr} {mva vwa mvb vwb : List Nat} {fa fb : Env → R D} {k : Bool} {g : D → D → Option D} (hk : k = true ∨ disj vwa mvb = true) (ho : OpR X (compareOp op) (rO X.K g false)) (ha : PE X a (tE X.K mva vwa fa)) (hb : PE X b (tE X.K mvb vwb fb))
    (hm : behindInMarks op b = false) : PT X (.Compare a [op] [b] pos) (tT X.K (mva ++ mvb) fun s => (fa s).bind fun x s => (fb s).bind fun y s => if k && x.own then .bad else R.of (g x y) s) :=
  pt_of (vw := []) (t := tOp _ _ _) (pt_cmpR ho ha hb hm) fun σ H Q h => tE_two (vf := false) hk h
theorem se_cmp {op : CmpOp} {a b : Expr} {mva vwa mvb vwb : List Nat} {fa fb : Env → R D} {k : Bool} {g : D → D → Option D} (hk : k = true ∨ disj vwa mvb = true) (ho : OpR X (compareOp op) (rO X.K g false)) (ha : PE X a (tE X.K mva vwa fa)) (hb : PE X b (tE X.K mvb vwb fb))
    (hm : behindInMarks op b = false) : PE X (.Compare a [op] [b] pos) (tE X.K (mva ++ mvb) [] fun s => (fa s).bind fun x s => (fb s).bind fun y s => if k && x.own then .bad else R.of (g x y) s) := se_op hk (pe_cmpR ho ha hb hm)
end
end Z

set_option Elab.async false
set_option linter.all false
set_option maxRecDepth 100000
namespace Z
open PySem PySem.Spec PyProof.Rows L2

/-! ### calls of defs -/
/-- the arguments when they are there: as says which are handed in and out -/
structure Args (K : PySem.W.Frag) (F H : Hp) (σ : L2.St) (fps : Fps) (as : List (Option Nat)) (vs : List V) (ds : List D) (fpa : Fps) : Prop where
  lv : vs.length = as.length
  ld : ds.length = as.length
  val : ∀ (j : Nat) (d : D), as[j]? = some none → ds[j]? = some d → ∃ v, vs[j]? = some v ∧ Rep K F H v d (fpa j)
  io : ∀ (j i : Nat), as[j]? = some (some i) → ∃ v, vs[j]? = some v ∧ σ[i]? = some (some v)
  dis : ∀ i j, i ≠ j → ∀ a ∈ fpa i, a ∉ fpa j
  nil : ∀ (j : Nat), as[j]? ≠ some none → fpa j = []
def fresh (mv : List Nat) (H : Hp) (fps fps' : Fps) (a : Addr) : Prop := (∀ j, a ∉ fps' j) ∧ (H a = none ∨ ∃ j ∈ mv, a ∈ fps j)
def tK (K : PySem.W.Frag) (as : List (Option Nat)) (mv : List Nat) (f : Env → R (List D)) : TA := fun σ H Q => ∃ F s fps, Rel K F H σ s fps ∧ match f s with
  | .ok ds s' => ∀ vs H' F' fps' fpa, Rel K F' H' σ s' fps' → Stp mv F H s fps F' H' s' fps' → Args K F' H' σ fps' as vs ds fpa → (∀ j, ∀ a ∈ fpa j, fresh mv H fps fps' a) → Q vs H'
  | _ => False
section
variable {X : Cx} {pos : Pos}
theorem sk_nil : PA X [] (tK X.K [] [] fun s => .ok [] s) := pa_imp pa_nil fun σ H Q h => by
  obtain ⟨F, s, fps, R, h⟩ := h
  exact h [] H F fps (fun _ => []) R .refl ⟨rfl, rfl, fun j d e _ => by simp at e, fun j i e => by simp at e, fun i j _ a z => (nomatch z), fun _ _ => rfl⟩ fun j a z => nomatch z
theorem sk_val {e : Expr} {es : List Expr} {as : List (Option Nat)} {mva mvb : List Nat} {fa : Env → R D} {fb : Env → R (List D)} (ha : PE X e (tE X.K mva [] fa)) (hb : PA X es (tK X.K as mvb fb)) (hs : starEach (e :: es) X.env = (false, eval e X.env) :: starEach es X.env) :
    PA X (e :: es) (tK X.K (none :: as) (mva ++ mvb) fun s => (fa s).bind fun d s => (fb s).bind fun ds s => .ok (d :: ds) s) := pa_imp (pa_cons ha hb hs) fun σ H Q h => by
  obtain ⟨F, s, fps, R, h⟩ := h
  refine ⟨F, s, fps, R, ?_⟩
  try dsimp only at h
  cases ea : fa s with
  | exc x s' => rw [ea] at h; exact h
  | bad => rw [ea] at h; exact h
  | ok d s1 =>
    rw [ea] at h
    simp only [bind_ok] at h
    refine fun x H1 F1 fps1 fp1 R1 st1 rs1 => ⟨F1, s1, fps1, R1, ?_⟩
    cases eb : fb s1 with
    | exc x s' => rw [eb] at h; exact h
    | bad => rw [eb] at h; exact h
    | ok ds s2 =>
      rw [eb] at h
      simp only [bind_ok] at h
      refine fun ys H2 F2 fps2 fpa R2 st2 A hf => ?_
      have r := rs1.on R1 st2 (.inl disj_nil)
      have frs : ∀ a ∈ fp1, fresh (mva ++ mvb) H fps fps2 a := fun a ha => by
        rcases r.fr a ha with ⟨j, hj, _⟩ | q
        · cases hj
        · exact q
      have apart : ∀ a ∈ fp1, ∀ j, a ∉ fpa j := fun a ha j z => by
        obtain ⟨_, o, ho, _⟩ := rs1.rep.own a ha
        rcases (hf j a z).2 with q | ⟨i, _, q⟩
        · rw [ho] at q; cases q
        · rcases rs1.fr a ha with ⟨j, hj, _⟩ | ⟨y, _⟩
          · cases hj
          · exact y i q
      refine h (x :: ys) H2 F2 fps2 (fun j => match j with | 0 => fp1 | j + 1 => fpa j) R2 (st1.trans st2) ⟨by simp [A.lv], by simp [A.ld], fun j d' e1 e2 => ?_, fun j i e1 => ?_, fun i j hij a ha => ?_, fun j hj => ?_⟩ fun j a ha => ?_
      · cases j with
        | zero => simp at e2; subst e2; exact ⟨x, rfl, r.rep⟩
        | succ j => exact A.val j d' (by simpa using e1) (by simpa using e2)
      · cases j with
        | zero => simp at e1
        | succ j => exact A.io j i (by simpa using e1)
      · cases i with
        | zero =>
          cases j with
          | zero => exact absurd rfl hij
          | succ j => exact apart a ha j
        | succ i =>
          cases j with
          | zero => exact fun z => apart a z i ha
          | succ j => exact A.dis i j (fun e => hij (by rw [e])) a ha
      · cases j with
        | zero => simp at hj
        | succ j => exact A.nil j (by simpa using hj)
      · cases j with
        | zero => exact frs a ha
        | succ j =>
          refine ⟨(hf j a ha).1, ?_⟩
          rcases (hf j a ha).2 with q | ⟨i, hi, q⟩
          · exact .inl (st1.d a q)
          · rcases st1.back q with y | ⟨k, hk, y⟩ | ⟨_, y⟩
            · exact .inl y
            · exact .inr ⟨k, List.mem_append_left _ hk, y⟩
            · exact .inr ⟨i, List.mem_append_right _ hi, y⟩
theorem sk_io {i : Nat} {x : Str} {p : Pos} {es : List Expr} {as : List (Option Nat)} {mvb : List Nat} {fb : Env → R (List D)} (ha : PE X (.Name x p) (tVar i)) (hb : PA X es (tK X.K as mvb fb)) (hs : starEach (.Name x p :: es) X.env = (false, eval (.Name x p) X.env) :: starEach es X.env) :
    PA X (.Name x p :: es) (tK X.K (some i :: as) mvb fun s => (R.of (get s i) s).bind fun d s => (fb s).bind fun ds s => .ok (d :: ds) s) := pa_imp (pa_cons ha hb hs) fun σ H Q h => by
  obtain ⟨F, s, fps, R, h⟩ := h
  try dsimp only at h
  cases ea : get s i with
  | none => rw [ea] at h; exact h.elim
  | some d =>
    rw [ea] at h
    simp only [of_some, bind_ok] at h
    obtain ⟨v, e1, _⟩ := R.rep i d ea
    refine ⟨v, e1, F, s, fps, R, ?_⟩
    cases eb : fb s with
    | exc x s' => rw [eb] at h; exact h
    | bad => rw [eb] at h; exact h
    | ok ds s2 =>
      rw [eb] at h
      simp only [bind_ok] at h
      refine fun ys H2 F2 fps2 fpa R2 st2 A hf => ?_
      refine h (v :: ys) H2 F2 fps2 (fun j => match j with | 0 => [] | j + 1 => fpa j) R2 st2 ⟨by simp [A.lv], by simp [A.ld], fun j d' e1 e2 => ?_, fun j k e2 => ?_, fun i j hij a ha => ?_, fun j hj => ?_⟩ fun j a ha => ?_
      · cases j with
        | zero => simp at e1
        | succ j => exact A.val j d' (by simpa using e1) (by simpa using e2)
      · cases j with
        | zero => simp at e2; subst e2; exact ⟨v, rfl, e1⟩
        | succ j => exact A.io j k (by simpa using e2)
      · cases i with
        | zero => cases ha
        | succ i =>
          cases j with
          | zero => exact fun z => nomatch z
          | succ j => exact A.dis i j (fun e => hij (by rw [e])) a ha
      · cases j with
        | zero => rfl
        | succ j => exact A.nil j (by simpa using hj)
      · cases j with
        | zero => cases ha
        | succ j => exact hf j a ha
end

/-! fill and back -/
theorem fill_spec : ∀ {as : List (Option Nat)} {ds ds2 : List D} {s s2 : Env}, fill as ds s = some (ds2, s2) → ds2.length = as.length ∧ s2.length = s.length ∧
    (∀ j : Nat, as[j]? = some none → ds2[j]? = ds[j]?) ∧ (∀ j i : Nat, as[j]? = some (some i) → ds2[j]? = get s i ∧ get s2 i = none) ∧ (∀ i, some i ∉ as → get s2 i = get s i) ∧ (∀ i j k : Nat, as[j]? = some (some i) → as[k]? = some (some i) → j = k)
  | [], [], ds2, s, s2, h => by
    simp only [fill, Option.some.injEq, Prod.mk.injEq] at h
    obtain ⟨rfl, rfl⟩ := h
    exact ⟨rfl, rfl, fun j e => by simp at e, fun j i e => by simp at e, fun i _ => rfl, fun i j k e => by simp at e⟩
  | [], _ :: _, _, _, _, h => by simp [fill] at h
  | none :: as, [], _, _, _, h => by simp [fill] at h
  | some _ :: as, [], _, _, _, h => by simp [fill] at h
  | none :: as, d :: ds, ds2, s, s2, h => by
    simp only [fill, Option.map_eq_some_iff] at h
    obtain ⟨⟨r, s3⟩, h1, h2⟩ := h
    simp only [Prod.mk.injEq] at h2
    obtain ⟨rfl, rfl⟩ := h2
    obtain ⟨l1, l2, a, b, c, u⟩ := fill_spec h1
    refine ⟨by simp [l1], l2, fun j e => ?_, fun j i e => ?_, fun i hi => c i fun z => hi (List.mem_cons_of_mem _ z), fun i j k e1 e2 => ?_⟩
    · cases j with
      | zero => rfl
      | succ j => simpa using a j (by simpa using e)
    · cases j with
      | zero => simp at e
      | succ j => simpa using b j i (by simpa using e)
    · cases j with
      | zero => simp at e1
      | succ j =>
        cases k with
        | zero => simp at e2
        | succ k => rw [u i j k (by simpa using e1) (by simpa using e2)]
  | some i0 :: as, d :: ds, ds2, s, s2, h => by
    simp only [fill, Option.bind_eq_some_iff, Option.map_eq_some_iff] at h
    obtain ⟨d0, h0, ⟨r, s3⟩, h1, h2⟩ := h
    simp only [Prod.mk.injEq] at h2
    obtain ⟨rfl, rfl⟩ := h2
    obtain ⟨l1, l2, a, b, c, u⟩ := fill_spec h1
    have hl := get_lt h0
    have hno : some i0 ∉ as := fun z => by
      obtain ⟨j, hj⟩ := List.getElem?_of_mem z
      have q := (b j i0 hj).1
      rw [get_set hl, if_pos rfl] at q
      have hj2 : j < as.length := (List.getElem?_eq_some_iff.mp hj).1
      rw [List.getElem?_eq_getElem (by omega)] at q
      cases q
    refine ⟨by simp [l1], by rw [l2, List.length_set], fun j e => ?_, fun j i e => ?_, fun i hi => ?_, fun i j k e1 e2 => ?_⟩
    · cases j with
      | zero => simp at e
      | succ j => simpa using a j (by simpa using e)
    · cases j with
      | zero =>
        simp at e
        subst e
        exact ⟨by simpa using h0.symm, by rw [c i0 hno, get_set hl, if_pos rfl]⟩
      | succ j =>
        have q := b j i (by simpa using e)
        have hne : i ≠ i0 := fun z => by
          subst z
          exact hno (List.mem_of_getElem? (show as[j]? = some (some i) by simpa using e))
        rw [get_set hl, if_neg hne] at q
        simpa using q
    · have hne : i ≠ i0 := fun z => hi (by rw [z]; exact List.mem_cons_self)
      rw [c i fun z => hi (List.mem_cons_of_mem _ z), get_set hl, if_neg hne]
    · cases j with
      | zero =>
        simp at e1
        subst e1
        cases k with
        | zero => rfl
        | succ k => exact absurd (List.mem_of_getElem? (show as[k]? = some (some i0) by simpa using e2)) hno
      | succ j =>
        cases k with
        | zero =>
          simp at e2
          subst e2
          exact absurd (List.mem_of_getElem? (show as[j]? = some (some i0) by simpa using e1)) hno
        | succ k => rw [u i j k (by simpa using e1) (by simpa using e2)]
theorem back_spec : ∀ {as : List (Option Nat)} {io s : Env}, io.length = as.length → (∀ i, some i ∈ as → i < s.length) → (∀ i j k : Nat, as[j]? = some (some i) → as[k]? = some (some i) → j = k) →
    (back as io s).length = s.length ∧ (∀ j i : Nat, as[j]? = some (some i) → get (back as io s) i = get io j) ∧ (∀ i, some i ∉ as → get (back as io s) i = get s i)
  | [], io, s, h, _, _ => by simp [back]
  | none :: as, [], s, h, _, _ => by simp at h
  | some i0 :: as, [], s, h, _, _ => by simp at h
  | none :: as, o :: io, s, h, hl, u => by
    obtain ⟨a, b, c⟩ := back_spec (as := as) (io := io) (s := s) (by simpa using h) (fun i z => hl i (List.mem_cons_of_mem _ z)) fun i j k e1 e2 => by
      have := u i (j + 1) (k + 1) (by simpa using e1) (by simpa using e2)
      omega
    refine ⟨a, fun j i e => ?_, fun i hi => c i fun z => hi (List.mem_cons_of_mem _ z)⟩
    cases j with
    | zero => simp at e
    | succ j => 
      have q := b j i (by simpa using e)
      simpa [back, get] using q
  | some i0 :: as, o :: io, s, h, hl, u => by
    obtain ⟨a, b, c⟩ := back_spec (as := as) (io := io) (s := s) (by simpa using h) (fun i z => hl i (List.mem_cons_of_mem _ z)) fun i j k e1 e2 => by
      have := u i (j + 1) (k + 1) (by simpa using e1) (by simpa using e2)
      omega
    have hi0 : i0 < (back as io s).length := by rw [a]; exact hl i0 List.mem_cons_self
    refine ⟨by show ((back as io s).set i0 o).length = _; rw [List.length_set]; exact a, fun j i e => ?_, fun i hi => ?_⟩
    · show get ((back as io s).set i0 o) i = _
      rw [get_set hi0]
      cases j with
      | zero =>
        simp at e
        subst e
        simp [get]
      | succ j =>
        have hne : i ≠ i0 := fun z => by
          subst z
          have := u i 0 (j + 1) rfl (by simpa using e)
          omega
        rw [if_neg hne, b j i (by simpa using e)]
        simp [get]
    · show get ((back as io s).set i0 o) i = _
      have hne : i ≠ i0 := fun z => hi (by rw [z]; exact List.mem_cons_self)
      rw [get_set hi0, if_neg hne]
      exact c i fun z => hi (List.mem_cons_of_mem _ z)
end Z

set_option Elab.async false
set_option linter.all false
set_option maxRecDepth 100000
namespace Z
open PySem PySem.Spec PyProof.Rows L2

/-- what a def promises: it does what g says -/
def spF (K : PySem.W.Frag) (n : Nat) (g : List D → CR) : Sp := fun vs H Q _ => vs.length = n ∧ ∃ F ds fps, Rel K F H (vs.map some) (ds.map some) fps ∧ match g ds with
  | .ok d io => ∀ v H' F' fps' fp, Rel K F' H' (vs.map some) io fps' → Stp (List.range n) F H (ds.map some) fps F' H' io fps' → Res K (List.range n) [] H fps F' H' fps' v d fp → Q v H'
  | _ => False
def fCall (as : List (Option Nat)) (g : List D → CR) (f : Env → R (List D)) : Env → R D := fun s => (f s).bind fun ds s => match fill as ds s with
    | none => .bad
    | some (ds, s) => match g ds with
      | .ok d io => .ok d (back as io s)
      | .exc x io => .exc x (back as io s)
      | .bad => .bad
theorem get_map {ds : List D} {j : Nat} {d : D} (h : get (ds.map some) j = some d) : ds[j]? = some d := by
  unfold get at h
  rw [List.getD_eq_getElem?_getD, List.getElem?_map] at h
  cases e : ds[j]? with
  | none => rw [e] at h; cases h
  | some x => rw [e] at h; exact h
theorem get_map_none {ds : List D} {j : Nat} (h : get (ds.map some) j = none) : ds[j]? = none := by
  unfold get at h
  rw [List.getD_eq_getElem?_getD, List.getElem?_map] at h
  cases e : ds[j]? with
  | none => rfl
  | some x => rw [e] at h; cases h
theorem idx_some {as : List (Option Nat)} {i j : Nat} (h : as.idxOf? (some i) = some j) : as[j]? = some (some i) := by
  rw [List.idxOf?_eq_some_iff] at h
  obtain ⟨hj, h1, _⟩ := h
  rw [List.getElem?_eq_getElem hj, h1]
theorem idx_none {as : List (Option Nat)} {i : Nat} (h : as.idxOf? (some i) = none) : some i ∉ as := List.idxOf?_eq_none_iff.mp h
theorem idx_mem {as : List (Option Nat)} {i j : Nat} (h : as[j]? = some (some i)) : as.idxOf? (some i) ≠ none := fun z => idx_none z (List.mem_of_getElem? h)
theorem tK_call {K : PySem.W.Frag} {as : List (Option Nat)} {mv : List Nat} {f : Env → R (List D)} {g : List D → CR} {σ : L2.St} {H : Hp} {Q : VK} {E : XK} (h : tE K (mv ++ as.filterMap id) [] (fCall as g f) σ H Q) :
    tCall (spF K as.length g) [] E (tK K as mv f) σ H Q := by
  obtain ⟨F, s, fps, R, h⟩ := h
  refine ⟨F, s, fps, R, ?_⟩
  try dsimp only [fCall] at h
  cases ef : f s with
  | exc x s' => rw [ef] at h; exact h
  | bad => rw [ef] at h; exact h
  | ok ds s1 =>
    rw [ef] at h
    simp only [bind_ok] at h
    refine fun vs H1 F1 fps1 fpa R1 st1 A hf => ?_
    cases ei : fill as ds s1 with
    | none => rw [ei] at h; exact h.elim
    | some p =>
      obtain ⟨ds2, s2⟩ := p
      rw [ei] at h
      try dsimp only at h
      obtain ⟨l1, l2, fa, fb, fc, fu⟩ := fill_spec ei
      rw [List.append_nil]
      refine ⟨A.lv, F1, ds2, fun j => match as[j]? with | some (some i) => fps1 i | _ => fpa j, ?_, ?_⟩
      · refine ⟨R1.sub, by rw [List.length_map, List.length_map, l1, A.lv], fun j d e => ?_, fun j e => ?_, fun i j hij a ha => ?_⟩
        · have e1 := get_map e
          have hj : j < as.length := by rw [← l1]; exact (List.getElem?_eq_some_iff.mp e1).1
          cases ea : as[j]? with
          | none => rw [List.getElem?_eq_none_iff] at ea; omega
          | some w =>
            cases w with
            | none =>
              rw [fa j ea] at e1
              obtain ⟨v, h1, h2⟩ := A.val j d ea e1
              exact ⟨v, by rw [List.getElem?_map, h1]; rfl, h2⟩
            | some i =>
              obtain ⟨v, h1, h2⟩ := A.io j i ea
              rw [(fb j i ea).1] at e1
              obtain ⟨v', h3, h4⟩ := R1.rep i d e1
              rw [h2] at h3
              cases h3
              exact ⟨v, by rw [List.getElem?_map, h1]; rfl, h4⟩
        · have e1 := get_map_none e
          have ea : as[j]? = none := by
            rw [List.getElem?_eq_none_iff] at e1 ⊢
            omega
          simp only [ea]
          exact A.nil j (by rw [ea]; exact fun z => nomatch z)
        · try dsimp only at ha ⊢
          cases ei : as[i]? with
          | none =>
            rw [ei] at ha
            try dsimp only at ha
            rw [A.nil i (by rw [ei]; exact fun z => nomatch z)] at ha
            cases ha
          | some w =>
            rw [ei] at ha
            cases w with
            | none =>
              try dsimp only at ha
              cases ej : as[j]? with
              | none => exact A.dis i j hij a ha
              | some w =>
                cases w with
                | none => exact A.dis i j hij a ha
                | some k => exact (hf i a ha).1 k
            | some k =>
              try dsimp only at ha
              cases ej : as[j]? with
              | none => exact fun z => (hf j a z).1 k ha
              | some w =>
                cases w with
                | none => exact fun z => (hf j a z).1 k ha
                | some k2 =>
                  refine R1.dis k k2 (fun e => ?_) a ha
                  subst e
                  exact hij (fu k i j ei ej)
      · cases eg : g ds2 with
        | exc x io => rw [eg] at h; exact h
        | bad => rw [eg] at h; exact h
        | ok d io =>
          rw [eg] at h
          try dsimp only at h
          have key : ∀ (a : Addr) (j : Nat), a ∈ (match as[j]? with | some (some i) => fps1 i | _ => fpa j) → H a = none ∨ ∃ i ∈ mv ++ as.filterMap id, a ∈ fps i := fun a j ha => by
            have val : a ∈ fpa j → H a = none ∨ ∃ i ∈ mv ++ as.filterMap id, a ∈ fps i := fun z => by
              rcases (hf j a z).2 with q | ⟨i, hi, q⟩
              · exact .inl q
              · exact .inr ⟨i, List.mem_append_left _ hi, q⟩
            cases ea : as[j]? with
            | none => rw [ea] at ha; exact val ha
            | some w =>
              rw [ea] at ha
              cases w with
              | none => exact val ha
              | some i =>
                rcases st1.back ha with q | ⟨k, hk, q⟩ | ⟨_, q⟩
                · exact .inl q
                · exact .inr ⟨k, List.mem_append_left _ hk, q⟩
                · exact .inr ⟨i, List.mem_append_right _ (List.mem_filterMap.mpr ⟨some i, List.mem_of_getElem? ea, rfl⟩), q⟩
          have apart : ∀ (i : Nat), some i ∉ as → ∀ a ∈ fps1 i, ∀ j : Nat, a ∉ (match as[j]? with | some (some i) => fps1 i | _ => fpa j) := fun i hi a ha j z => by
            cases ea : as[j]? with
            | none => rw [ea] at z; exact (hf j a z).1 i ha
            | some w =>
              rw [ea] at z
              cases w with
              | none => exact (hf j a z).1 i ha
              | some k => exact R1.dis i k (fun e => hi (by rw [e]; exact List.mem_of_getElem? ea)) a ha z
          refine fun v H' F' fps' fp R' st' rs => ?_
          have lio : io.length = as.length := by rw [R'.len, List.length_map, A.lv]
          obtain ⟨b1, b2, b3⟩ := back_spec (s := s2) lio (fun i hi => by
            obtain ⟨j, hj⟩ := List.getElem?_of_mem hi
            have q := (fb j i hj).1
            have hj2 : j < ds2.length := by rw [l1]; exact (List.getElem?_eq_some_iff.mp hj).1
            rw [List.getElem?_eq_getElem hj2] at q
            rw [l2]
            exact get_lt q.symm) fu
          have g3 : ∀ i, some i ∉ as → get (back as io s2) i = get s1 i := fun i hi => (b3 i hi).trans (fc i hi)
          refine h v H' F' (fun i => match as.idxOf? (some i) with | some j => fps' j | none => fps1 i) fp ⟨R'.sub, by rw [b1, l2]; exact R1.len, fun i d' e => ?_, fun i e => ?_, fun i j hij a ha => ?_⟩
            ⟨fun a o e => st'.f a o (st1.f a o e), fun a o e k => ?_, fun a e => ?_, fun j hj a ha => ?_, fun j hj => ?_, fun a e => st1.d a (st'.d a e)⟩ ⟨rs.rep, fun a ha => .inr ?_⟩
          · try dsimp only
            cases ex : as.idxOf? (some i) with
            | some j =>
              have ej := idx_some ex
              rw [b2 j i ej] at e
              obtain ⟨v', h1, h2⟩ := R'.rep j d' e
              obtain ⟨v2, h3, h4⟩ := A.io j i ej
              rw [List.getElem?_map, h3] at h1
              have h1' : v2 = v' := by simpa using h1
              subst h1'
              exact ⟨v2, h4, h2⟩
            | none =>
              have hi := idx_none ex
              rw [g3 i hi] at e
              obtain ⟨v', h1, h2⟩ := R1.rep i d' e
              refine ⟨v', h1, h2.mono st'.f fun a ha => ?_⟩
              obtain ⟨q1, o, q2, _⟩ := h2.own a ha
              refine ⟨fun o e => st'.h a o e fun j _ => apart i hi a ha j, ?_⟩
              cases eF : F' a with
              | none => rfl
              | some u =>
                rcases st'.nf a (by rw [eF]; exact Option.some_ne_none _) with q | q | ⟨j, _, q⟩
                · exact absurd q1 q
                · rw [q2] at q; cases q
                · exact absurd q (apart i hi a ha j)
          · try dsimp only
            cases ex : as.idxOf? (some i) with
            | some j =>
              have ej := idx_some ex
              rw [b2 j i ej] at e
              exact R'.nil j e
            | none =>
              rw [g3 i (idx_none ex)] at e
              exact R1.nil i e
          · try dsimp only at ha ⊢
            have mix : ∀ (i j k : Nat), as[k]? = some (some i) → some j ∉ as → ∀ a, a ∈ fps' k → a ∉ fps1 j := fun i j k ek hj a z y => by
              have hk : k ∈ List.range as.length := List.mem_range.mpr (List.getElem?_eq_some_iff.mp ek).1
              obtain ⟨_, o, q2, _⟩ := R1.there y
              rcases st'.u k hk a z with q | ⟨m, _, q⟩
              · rw [q2] at q; cases q
              · exact apart j hj a y m q
            cases ex : as.idxOf? (some i) with
            | some k =>
              rw [ex] at ha
              cases ey : as.idxOf? (some j) with
              | some k2 =>
                refine R'.dis k k2 (fun e => ?_) a ha
                subst e
                have q := (idx_some ex).symm.trans (idx_some ey)
                simp only [Option.some.injEq] at q
                exact hij q
              | none => exact mix i j k (idx_some ex) (idx_none ey) a ha
            | none =>
              rw [ex] at ha
              cases ey : as.idxOf? (some j) with
              | some k2 => exact fun z => mix j i k2 (idx_some ey) (idx_none ex) a z ha
              | none => exact R1.dis i j hij a ha
          · refine st'.h a o (st1.h a o e fun j hj => k j (List.mem_append_left _ hj)) fun j _ z => ?_
            rcases key a j z with q | ⟨i, hi, q⟩
            · rw [e] at q; cases q
            · exact k i hi q
          · rcases st'.nf a e with q | q | ⟨j, _, q⟩
            · rcases st1.nf a q with q | q | ⟨j, hj, q⟩
              · exact .inl q
              · exact .inr (.inl q)
              · exact .inr (.inr ⟨j, List.mem_append_left _ hj, q⟩)
            · exact .inr (.inl (st1.d a q))
            · exact .inr (key a j q)
          · try dsimp only at ha
            cases ex : as.idxOf? (some j) with
            | some k =>
              rw [ex] at ha
              have hk : k ∈ List.range as.length := List.mem_range.mpr (List.getElem?_eq_some_iff.mp (idx_some ex)).1
              rcases st'.u k hk a ha with q | ⟨m, _, q⟩
              · exact .inl (st1.d a q)
              · exact key a m q
            | none =>
              rw [ex] at ha
              rcases st1.back ha with q | ⟨k, hk, q⟩ | ⟨_, q⟩
              · exact .inl q
              · exact .inr ⟨k, List.mem_append_left _ hk, q⟩
              · exact .inr ⟨j, hj, q⟩
          · have hj1 : some j ∉ as := fun z => hj (List.mem_append_right _ (List.mem_filterMap.mpr ⟨some j, z, rfl⟩))
            have q := st1.o j fun z => hj (List.mem_append_left _ z)
            refine ⟨(g3 j hj1).trans q.1, ?_⟩
            try dsimp only
            cases ex : as.idxOf? (some j) with
            | some k => exact absurd (List.mem_of_getElem? (idx_some ex)) hj1
            | none => exact q.2
          · rcases rs.fr a ha with ⟨j, hj, _⟩ | ⟨q1, q2⟩
            · cases hj
            · refine ⟨fun j z => ?_, ?_⟩
              · try dsimp only at z
                cases ex : as.idxOf? (some j) with
                | some k => rw [ex] at z; exact q1 k z
                | none =>
                  rw [ex] at z
                  obtain ⟨_, o, y2, _⟩ := R1.there z
                  rcases q2 with q2 | ⟨m, _, q2⟩
                  · rw [y2] at q2; cases q2
                  · exact apart j (idx_none ex) a z m q2
              · rcases q2 with q2 | ⟨m, _, q2⟩
                · exact .inl (st1.d a q2)
                · exact key a m q2
end Z

set_option Elab.async false
set_option linter.all false
set_option maxRecDepth 100000
namespace Z
open PySem PySem.Spec PyProof.Rows L2

/-- all slots but these are what they were -/
def Kp (as : List Nat) (σ σ' : L2.St) : Prop := ∀ i : Nat, i ∉ as → σ'[i]? = σ[i]?
theorem Kp.refl {as : List Nat} {σ : L2.St} : Kp as σ σ := fun _ _ => rfl
theorem Kp.trans {as bs : List Nat} {σ σ1 σ2 : L2.St} (a : Kp as σ σ1) (b : Kp bs σ1 σ2) : Kp (as ++ bs) σ σ2 := fun i h => (b i fun z => h (List.mem_append_right _ z)).trans (a i fun z => h (List.mem_append_left _ z))
theorem Kp.weak {as bs : List Nat} {σ σ1 : L2.St} (a : Kp as σ σ1) (m : ∀ j ∈ as, j ∈ bs) : Kp bs σ σ1 := fun i h => a i fun z => h (m i z)
/-- what is wanted of an outcome, told from the beginning -/
def Ends' (K : PySem.W.Frag) (mv as : List Nat) (σ : L2.St) (F H : Hp) (s : Env) (fps : Fps) (D : Ends) : O → Prop
  | .nxt s' => ∀ σ' H' F' fps', Rel K F' H' σ' s' fps' → Stp mv F H s fps F' H' s' fps' → Kp as σ σ' → D.nx σ' H'
  | .cnt s' => ∀ σ' H' F' fps', Rel K F' H' σ' s' fps' → Stp mv F H s fps F' H' s' fps' → Kp as σ σ' → D.ct σ' H'
  | .brk s' => ∀ σ' H' F' fps', Rel K F' H' σ' s' fps' → Stp mv F H s fps F' H' s' fps' → Kp as σ σ' → D.bk σ' H'
  | .ret d s' => ∀ v σ' H' F' fps' fp, Rel K F' H' σ' s' fps' → Stp mv F H s fps F' H' s' fps' → Kp as σ σ' → Res K mv [] H fps F' H' fps' v d fp → D.rt v H'
  | _ => False
def tS (K : PySem.W.Frag) (mv as : List Nat) (g : Env → O) : TS := fun D σ H => ∃ F s fps, Rel K F H σ s fps ∧ Ends' K mv as σ F H s fps D (g s)
theorem ps_imp {X : Cx} {st : Stmt} {t t' : TS} (h : PS X st t) (i : ∀ D σ H, t' D σ H → t D σ H) : PS X st t' := ⟨fun pins s σ H D I q => h.run pins s σ H D I (i _ _ _ q)⟩
theorem pss_imp {X : Cx} {st : List Stmt} {t t' : TS} (h : PSs X st t) (i : ∀ D σ H, t' D σ H → t D σ H) : PSs X st t' := ⟨fun pins s σ H D I q => h.run pins s σ H D I (i _ _ _ q)⟩
section
variable {K : PySem.W.Frag} {mv mv1 mv2 as as1 as2 vw : List Nat} {σ σ1 : L2.St} {F H F1 H1 : Hp} {s s1 : Env} {fps fps1 : Fps} {D : Ends} {o : O} {v : V} {d : Z.D} {fp : List Addr}
theorem Ends'.weak (h : Ends' K mv2 as2 σ F H s fps D o) (m : ∀ j ∈ mv1, j ∈ mv2) (w : ∀ j ∈ as1, j ∈ as2) : Ends' K mv1 as1 σ F H s fps D o := by
  cases o with
  | nxt s' => exact fun σ' H' F' fps' R st k => h σ' H' F' fps' R (st.weak m) (k.weak w)
  | cnt s' => exact fun σ' H' F' fps' R st k => h σ' H' F' fps' R (st.weak m) (k.weak w)
  | brk s' => exact fun σ' H' F' fps' R st k => h σ' H' F' fps' R (st.weak m) (k.weak w)
  | ret d s' => exact fun v σ' H' F' fps' fp R st k r => h v σ' H' F' fps' fp R (st.weak m) (k.weak w) (res_weak r m fun _ z => z)
  | exc x s' => exact h
  | bad => exact h
/-- told from a later state -/
theorem Ends'.later (st1 : Stp mv1 F H s fps F1 H1 s1 fps1) (k1 : Kp as1 σ σ1) (h : Ends' K (mv1 ++ mv2) (as1 ++ as2) σ F H s fps D o) : Ends' K mv2 as2 σ1 F1 H1 s1 fps1 D o := by
  cases o with
  | nxt s' => exact fun σ' H' F' fps' R st k => h σ' H' F' fps' R (st1.trans st) (k1.trans k)
  | cnt s' => exact fun σ' H' F' fps' R st k => h σ' H' F' fps' R (st1.trans st) (k1.trans k)
  | brk s' => exact fun σ' H' F' fps' R st k => h σ' H' F' fps' R (st1.trans st) (k1.trans k)
  | ret d s' => exact fun v σ' H' F' fps' fp R st k r => h v σ' H' F' fps' fp R (st1.trans st) (k1.trans k) (r.later st1)
  | exc x s' => exact h
  | bad => exact h
/-- a slot is stored -/
theorem Rel.asg (R : Rel K F H σ s fps) (i : Nat) (r : Rep K F H v d fp) (hn : ∀ a ∈ fp, ∀ j, a ∉ fps j) : ∃ fps', Rel K F H (σ.set i (some v)) (s.set i (some d)) fps' ∧ (∀ j, j ≠ i → fps' j = fps j) ∧ ∀ a ∈ fps' i, a ∈ fp := by
  by_cases hi : i < s.length
  · refine ⟨fun j => if j = i then fp else fps j, ⟨R.sub, by rw [List.length_set, List.length_set]; exact R.len, fun j d' e' => ?_, fun j e' => ?_, fun j k hjk a ha => ?_⟩, fun j hj => if_neg hj, fun a ha => by simpa using ha⟩
    · rw [get_set hi] at e'
      by_cases h : j = i
      · subst h
        rw [if_pos rfl] at e'
        cases e'
        exact ⟨v, List.getElem?_set_self (by rw [← R.len]; exact hi), by simp only [if_true]; exact r⟩
      · rw [if_neg h] at e'
        obtain ⟨v', h1, r'⟩ := R.rep j d' e'
        exact ⟨v', by rw [List.getElem?_set_ne (fun z => h z.symm)]; exact h1, by simp only [if_neg h]; exact r'⟩
    · rw [get_set hi] at e'
      by_cases h : j = i
      · rw [if_pos h] at e'; cases e'
      · rw [if_neg h] at e'
        simp only [if_neg h]; exact R.nil j e'
    · by_cases h : j = i
      · simp only [if_pos h] at ha
        by_cases h2 : k = i
        · exact absurd (h.trans h2.symm) hjk
        · simp only [if_neg h2]; exact hn a ha k
      · simp only [if_neg h] at ha
        by_cases h2 : k = i
        · simp only [if_pos h2]; exact fun z => hn a z j ha
        · simp only [if_neg h2]; exact R.dis j k hjk a ha
  · have e1 : s.set i (some d) = s := List.set_eq_of_length_le (by omega)
    have e2 : σ.set i (some v) = σ := List.set_eq_of_length_le (by rw [← R.len]; omega)
    refine ⟨fps, by rw [e1, e2]; exact R, fun _ _ => rfl, fun a ha => ?_⟩
    have q : get s i = none := by
      unfold get
      rw [List.getD_eq_getElem?_getD, List.getElem?_eq_none (by omega)]
      rfl
    rw [R.nil i q] at ha
    cases ha
theorem kp_set {i : Nat} : Kp [i] σ (σ.set i (some v)) := fun j hj => List.getElem?_set_ne fun z => hj (List.mem_singleton.mpr z.symm)
end
theorem Rel.asg' {K : PySem.W.Frag} {F0 H0 F H : Hp} {σ : L2.St} {s0 s : Env} {fps0 fps : Fps} {mv : List Nat} {v : V} {d : D} {fp : List Addr} (R : Rel K F H σ s fps) (st : Stp mv F0 H0 s0 fps0 F H s fps) (i : Nat) (r : Res K mv [] H0 fps0 F H fps v d fp) :
    ∃ fps', Rel K F H (σ.set i (some v)) (s.set i (some d)) fps' ∧ Stp (mv ++ [i]) F0 H0 s0 fps0 F H (s.set i (some d)) fps' := by
  have hf : ∀ a ∈ fp, (∀ j, a ∉ fps j) ∧ (H0 a = none ∨ ∃ j ∈ mv, a ∈ fps0 j) := fun a ha => by
    rcases r.fr a ha with ⟨j, hj, _⟩ | q
    · cases hj
    · exact q
  obtain ⟨fps', R', h1, h2⟩ := R.asg i r.rep fun a ha => (hf a ha).1
  refine ⟨fps', R', st.f, fun a o e k => st.h a o e fun j hj => k j (List.mem_append_left _ hj), fun a e => ?_, fun j hj a ha => ?_, fun j hj => ?_, st.d⟩
  · rcases st.nf a e with q | q | ⟨j, hj, q⟩
    · exact .inl q
    · exact .inr (.inl q)
    · exact .inr (.inr ⟨j, List.mem_append_left _ hj, q⟩)
  · by_cases hji : j = i
    · subst hji
      rcases (hf a (h2 a ha)).2 with q | ⟨k, hk, q⟩
      · exact .inl q
      · exact .inr ⟨k, List.mem_append_left _ hk, q⟩
    · rw [h1 j hji] at ha
      have hj' : j ∈ mv := by
        rcases List.mem_append.mp hj with q | q
        · exact q
        · exact absurd (List.mem_singleton.mp q) hji
      rcases st.u j hj' a ha with q | ⟨k, hk, q⟩
      · exact .inl q
      · exact .inr ⟨k, List.mem_append_left _ hk, q⟩
  · have hji : j ≠ i := fun z => hj (List.mem_append_right _ (List.mem_singleton.mpr z))
    have q := st.o j fun z => hj (List.mem_append_left _ z)
    refine ⟨?_, (h1 j hji).trans q.2⟩
    rw [← q.1]
    unfold get
    rw [List.getD_eq_getElem?_getD, List.getD_eq_getElem?_getD, List.getElem?_set_ne fun z => hji z.symm]

section
variable {X : Cx} {pos : Pos}
theorem ss_asg {st : Stmt} {i : Nat} {mv : List Nat} {f : Env → R D} (h : PS X st (tAsg (tE X.K mv [] f) (gName i))) : PS X st (tS X.K (mv ++ [i]) [i] fun s => (f s).O fun d s => .nxt (s.set i (some d))) := ps_imp h fun D σ H h => by
  obtain ⟨F, s, fps, R, h⟩ := h
  refine ⟨F, s, fps, R, ?_⟩
  try dsimp only [Z.R.O] at h
  cases e : f s with
  | exc x s' => rw [e] at h; exact h
  | bad => rw [e] at h; exact h
  | ok d s1 =>
    rw [e] at h
    refine fun v H1 F1 fps1 fp R1 st1 rs => ?_
    obtain ⟨fps', R', st'⟩ := R1.asg' st1 i rs
    exact h _ H1 F1 fps' R' st' kp_set
theorem ss_ret {e : Expr} {mv : List Nat} {f : Env → R D} (he : PE X e (tE X.K mv [] f)) : PS X (.Return (some e) pos) (tS X.K mv [] fun s => (f s).O fun d s => .ret d s) := ps_imp (ps_ret he) fun D σ H h => by
  obtain ⟨F, s, fps, R, h⟩ := h
  refine ⟨F, s, fps, R, ?_⟩
  try dsimp only [Z.R.O] at h
  cases e : f s with
  | exc x s' => rw [e] at h; exact h
  | bad => rw [e] at h; exact h
  | ok d s1 =>
    rw [e] at h
    exact fun v H1 F1 fps1 fp R1 st1 rs => h v σ H1 F1 fps1 fp R1 st1 .refl rs
theorem ss_ex {st : Stmt} {mv vw : List Nat} {f : Env → R D} (h : PS X st (tDrop (tE X.K mv vw f))) : PS X st (tS X.K mv [] fun s => (f s).O fun _ s => .nxt s) := ps_imp h fun D σ H h => by
  obtain ⟨F, s, fps, R, h⟩ := h
  refine ⟨F, s, fps, R, ?_⟩
  try dsimp only [Z.R.O] at h
  cases e : f s with
  | exc x s' => rw [e] at h; exact h
  | bad => rw [e] at h; exact h
  | ok d s1 =>
    rw [e] at h
    exact fun v H1 F1 fps1 fp R1 st1 rs => h σ H1 F1 fps1 R1 st1 .refl
theorem ss_skip {st : Stmt} (h : PS X st tNext) : PS X st (tS X.K [] [] fun s => .nxt s) := ps_imp h fun D σ H h => by
  obtain ⟨F, s, fps, R, h⟩ := h
  exact h σ H F fps R .refl .refl
theorem ss_brk : PS X (.Break pos) (tS X.K [] [] fun s => .brk s) := ps_imp ps_break fun D σ H h => by
  obtain ⟨F, s, fps, R, h⟩ := h
  exact h σ H F fps R .refl .refl
theorem ss_cnt : PS X (.Continue pos) (tS X.K [] [] fun s => .cnt s) := ps_imp ps_continue fun D σ H h => by
  obtain ⟨F, s, fps, R, h⟩ := h
  exact h σ H F fps R .refl .refl
def oSeq (a b : Env → O) : Env → O := fun s => match a s with
    | .nxt s => b s
    | o => o
theorem tS_seq {K : PySem.W.Frag} {mv1 mv2 as1 as2 : List Nat} {a b : Env → O} {D : Ends} {σ : L2.St} {H : Hp} (h : tS K (mv1 ++ mv2) (as1 ++ as2) (oSeq a b) D σ H) : tSeq (tS K mv1 as1 a) (tS K mv2 as2 b) D σ H := by
  obtain ⟨F, s, fps, R, h⟩ := h
  refine ⟨F, s, fps, R, ?_⟩
  unfold oSeq at h
  cases e : a s with
  | nxt s1 =>
    rw [e] at h
    exact fun σ1 H1 F1 fps1 R1 st1 k1 => ⟨F1, s1, fps1, R1, Ends'.later st1 k1 h⟩
  | cnt s1 => rw [e] at h; exact Ends'.weak (D := D) (o := .cnt s1) h mem_left mem_left
  | brk s1 => rw [e] at h; exact Ends'.weak (D := D) (o := .brk s1) h mem_left mem_left
  | ret d s1 => rw [e] at h; exact Ends'.weak (D := D) (o := .ret d s1) h mem_left mem_left
  | exc x s1 => rw [e] at h; exact h
  | bad => rw [e] at h; exact h
theorem sss_cons {st : Stmt} {rest : List Stmt} {mv1 mv2 as1 as2 : List Nat} {a b : Env → O} (h1 : PS X st (tS X.K mv1 as1 a)) (h2 : PSs X rest (tS X.K mv2 as2 b)) : PSs X (st :: rest) (tS X.K (mv1 ++ mv2) (as1 ++ as2) (oSeq a b)) :=
  pss_imp (pss_cons h1 h2) fun D σ H h => tS_seq h
theorem sss_one {st : Stmt} {mv1 as1 : List Nat} {a : Env → O} (h1 : PS X st (tS X.K mv1 as1 a)) : PSs X [st] (tS X.K mv1 as1 a) := pss_one h1
theorem sss_nil : PSs X [] (tS X.K [] [] fun s => .nxt s) := pss_imp pss_nil fun D σ H h => by
  obtain ⟨F, s, fps, R, h⟩ := h
  exact h σ H F fps R .refl .refl
def oIte (c : Env → R D) (a b : Env → O) : Env → O := fun s => (c s).O fun x s => match asB x with
    | some true => a s
    | some false => b s
    | none => .bad
theorem ss_if {c : Expr} {a b : List Stmt} {mvc mva mvb asa asb : List Nat} {fc : Env → R D} {fa fb : Env → O} (hc : PT X c (tT X.K mvc fc)) (ha : PSs X a (tS X.K mva asa fa)) (hb : PSs X b (tS X.K mvb asb fb)) :
    PS X (.If c a b pos) (tS X.K (mvc ++ (mva ++ mvb)) (asa ++ asb) (oIte fc fa fb)) := ps_imp (ps_if hc ha hb) fun D σ H h => by
  obtain ⟨F, s, fps, R, h⟩ := h
  refine ⟨F, s, fps, R, ?_⟩
  try dsimp only [oIte, Z.R.O] at h
  cases e : fc s with
  | exc x s' => rw [e] at h; exact h
  | bad => rw [e] at h; exact h
  | ok d s1 =>
    rw [e] at h
    try dsimp only at h ⊢
    cases eb : asB d with
    | none => rw [eb] at h; exact h
    | some c =>
      rw [eb] at h
      refine fun H1 F1 fps1 R1 st1 => ?_
      have h' : Ends' X.K (mvc ++ (mva ++ mvb)) ([] ++ (asa ++ asb)) σ F H s fps D _ := h
      have q := Ends'.later (mv2 := mva ++ mvb) (as1 := []) st1 (Kp.refl (σ := σ)) h'
      cases c with
      | true => exact ⟨F1, s1, fps1, R1, q.weak mem_left mem_left⟩
      | false => exact ⟨F1, s1, fps1, R1, q.weak mem_right mem_right⟩
end
end Z

set_option Elab.async false
set_option linter.all false
set_option maxRecDepth 100000
namespace Z
open PySem PySem.Spec PyProof.Rows L2

/-! ### targets -/
def T.sl : T → List Nat
  | .nm i => [i]
  | .tp is => is
def gs : List Nat → TGs
  | [] => gNil
  | i :: is => gCons (gName i) (gs is)
def gT (K : PySem.W.Frag) : T → TG
  | .nm i => gName i
  | .tp is => gTup K is.length (gs is)
/-- the slots is are stored -/
structure Asg (is : List Nat) (fp : List Addr) (s : Env) (fps : Fps) (s' : Env) (fps' : Fps) : Prop where
  o : ∀ j, j ∉ is → get s' j = get s j ∧ fps' j = fps j
  i : ∀ j ∈ is, ∀ a ∈ fps' j, a ∈ fp ∨ a ∈ fps j
section
variable {K : PySem.W.Frag} {F H F0 H0 : Hp} {σ : L2.St} {s s0 : Env} {fps fps0 : Fps} {mv : List Nat}
theorem asg_one {v : V} {d : D} {fp : List Addr} (R : Rel K F H σ s fps) (i : Nat) (r : Rep K F H v d fp) (hn : ∀ a ∈ fp, ∀ j, a ∉ fps j) : ∃ fps', Rel K F H (σ.set i (some v)) (s.set i (some d)) fps' ∧ Asg [i] fp s fps (s.set i (some d)) fps' := by
  obtain ⟨fps', R', h1, h2⟩ := R.asg i r hn
  refine ⟨fps', R', fun j hj => ?_, fun j hj a ha => ?_⟩
  · have hji : j ≠ i := fun z => hj (List.mem_singleton.mpr z)
    refine ⟨?_, h1 j hji⟩
    unfold get
    rw [List.getD_eq_getElem?_getD, List.getD_eq_getElem?_getD, List.getElem?_set_ne fun z => hji z.symm]
  · have : j = i := List.mem_singleton.mp hj
    subst this
    exact .inl (h2 a ha)
theorem asg_many : ∀ {is : List Nat} {vs : List V} {ds : List D} {fp : List Addr} {σ : L2.St} {s : Env} {fps : Fps} {Q : L2.St → Hp → Prop}, Rel K F H σ s fps → Reps K F H vs ds fp → is.length = ds.length → (∀ a ∈ fp, ∀ j, a ∉ fps j) →
    (∀ σ' fps', Rel K F H σ' ((is.zip ds).foldl (fun s p => s.set p.1 (some p.2)) s) fps' → Kp is σ σ' → Asg is fp s fps ((is.zip ds).foldl (fun s p => s.set p.1 (some p.2)) s) fps' → Q σ' H) → gs is vs σ H Q
  | [], _, [], _, σ, s, fps, Q, R, r, _, hn, h => by
    cases r
    exact ⟨rfl, h σ fps R .refl ⟨fun _ _ => ⟨rfl, rfl⟩, fun _ z => nomatch z⟩⟩
  | [], _, _ :: _, _, _, _, _, _, _, _, e, _, _ => by simp at e
  | _ :: _, _, [], _, _, _, _, _, _, _, e, _, _ => by simp at e
  | i :: is, _, d :: ds, _, σ, s, fps, Q, R, r, e, hn, h => by
    cases r with
    | @cons v _ vs _ fp fq h1 h2 hd =>
      obtain ⟨fps1, R1, A1⟩ := asg_one R i h1 fun a ha => hn a (List.mem_append_left _ ha)
      refine ⟨v, vs, rfl, ?_⟩
      refine asg_many R1 h2 (by simpa using e) (fun a ha j z => ?_) fun σ' fps' R' k A => ?_
      · by_cases hj : j ∈ [i]
        · rcases A1.i j hj a z with q | q
          · exact hd a q ha
          · exact hn a (List.mem_append_right _ ha) j q
        · rw [(A1.o j hj).2] at z
          exact hn a (List.mem_append_right _ ha) j z
      · refine h σ' fps' R' (Kp.weak (Kp.trans (kp_set (i := i) (v := v)) k) fun j hj => by simpa using hj) ⟨fun j hj => ?_, fun j hj a ha => ?_⟩
        · have h1 := A1.o j fun z => hj (by rw [List.mem_singleton.mp z]; exact List.mem_cons_self)
          have h2 := A.o j fun z => hj (List.mem_cons_of_mem _ z)
          exact ⟨h2.1.trans h1.1, h2.2.trans h1.2⟩
        · have key : a ∈ fps1 j → a ∈ fp ++ fq ∨ a ∈ fps j := fun z => by
            by_cases hj1 : j ∈ [i]
            · rcases A1.i j hj1 a z with q | q
              · exact .inl (List.mem_append_left _ q)
              · exact .inr q
            · rw [(A1.o j hj1).2] at z
              exact .inr z
          by_cases hj2 : j ∈ is
          · rcases A.i j hj2 a ha with q | q
            · exact .inl (List.mem_append_right _ q)
            · exact key q
          · rw [(A.o j hj2).2] at ha
            exact key ha
theorem tgt {tg : T} {v : V} {d : D} {fp : List Addr} {s' : Env} {Q : L2.St → Hp → Prop} (R : Rel K F H σ s fps) (r : Rep K F H v d fp) (hn : ∀ a ∈ fp, ∀ j, a ∉ fps j) (e : assignT tg d s = some s')
    (h : ∀ σ' fps', Rel K F H σ' s' fps' → Kp tg.sl σ σ' → Asg tg.sl fp s fps s' fps' → Q σ' H) : gT K tg v σ H Q := by
  cases tg with
  | nm i =>
    simp only [assignT, Option.some.injEq] at e
    subst e
    obtain ⟨fps', R', A⟩ := asg_one R i r hn
    exact h _ fps' R' kp_set A
  | tp is =>
    cases d <;> simp only [assignT, reduceCtorEq] at e
    rename_i ds
    by_cases hl : is.length = ds.length
    · rw [if_pos hl] at e
      cases e
      obtain ⟨a, vs, rfl, t0, t1, p1⟩ := rep_tup R.sub r
      exact ⟨a, vs, rfl, t1, by rw [p1.len]; exact hl.symm, asg_many R p1 hl hn h⟩
    · rw [if_neg hl] at e; cases e
theorem Asg.stp {is : List Nat} {fp : List Addr} {s' : Env} {fps' : Fps} (A : Asg is fp s fps s' fps') (st : Stp mv F0 H0 s0 fps0 F H s fps) (hf : ∀ a ∈ fp, H0 a = none ∨ ∃ j ∈ mv, a ∈ fps0 j) : Stp (mv ++ is) F0 H0 s0 fps0 F H s' fps' := by
  have old : ∀ (a : Addr) (j : Nat), j ∈ mv ++ is → a ∈ fps j → H0 a = none ∨ ∃ k ∈ mv ++ is, a ∈ fps0 k := fun a j hj z => by
    rcases st.back z with y | ⟨k, hk, y⟩ | ⟨_, y⟩
    · exact .inl y
    · exact .inr ⟨k, List.mem_append_left _ hk, y⟩
    · exact .inr ⟨j, hj, y⟩
  refine ⟨st.f, fun a o e k => st.h a o e fun j hj => k j (List.mem_append_left _ hj), fun a e => ?_, fun j hj a ha => ?_, fun j hj => ?_, st.d⟩
  · rcases st.nf a e with q | q | ⟨j, hj, q⟩
    · exact .inl q
    · exact .inr (.inl q)
    · exact .inr (.inr ⟨j, List.mem_append_left _ hj, q⟩)
  · by_cases hji : j ∈ is
    · rcases A.i j hji a ha with q | q
      · rcases hf a q with y | ⟨k, hk, y⟩
        · exact .inl y
        · exact .inr ⟨k, List.mem_append_left _ hk, y⟩
      · exact old a j hj q
    · rw [(A.o j hji).2] at ha
      exact old a j hj ha
  · have q := st.o j fun z => hj (List.mem_append_left _ z)
    have w := A.o j fun z => hj (List.mem_append_right _ z)
    exact ⟨w.1.trans q.1, w.2.trans q.2⟩
end
section
variable {X : Cx} {pos : Pos}
theorem ss_unp {st : Stmt} {is : List Nat} {mv : List Nat} {f : Env → R D} (h : PS X st (tAsg (tE X.K mv [] f) (gT X.K (.tp is)))) : PS X st (tS X.K (mv ++ is) is fun s => (f s).O fun d s => match assignT (.tp is) d s with
    | some s => .nxt s
    | none => .bad) := ps_imp h fun D σ H h => by
  obtain ⟨F, s, fps, R, h⟩ := h
  refine ⟨F, s, fps, R, ?_⟩
  try dsimp only [Z.R.O] at h
  cases e : f s with
  | exc x s' => rw [e] at h; exact h
  | bad => rw [e] at h; exact h
  | ok d s1 =>
    rw [e] at h
    try dsimp only at h
    refine fun v H1 F1 fps1 fp R1 st1 rs => ?_
    have hf : ∀ a ∈ fp, (∀ j, a ∉ fps1 j) ∧ (H a = none ∨ ∃ j ∈ mv, a ∈ fps j) := fun a ha => by
      rcases rs.fr a ha with ⟨j, hj, _⟩ | q
      · cases hj
      · exact q
    cases ea : assignT (.tp is) d s1 with
    | none => rw [ea] at h; exact h.elim
    | some s2 =>
      rw [ea] at h
      exact tgt (tg := .tp is) R1 rs.rep (fun a ha => (hf a ha).1) ea fun σ' fps' R' k A => h σ' H1 F1 fps' R' (A.stp st1 fun a ha => (hf a ha).2) k
/-- x[k] = y of a list -/
theorem reps_set {K : PySem.W.Frag} {F H : Hp} : ∀ {vs : List V} {ds : List D} {fp fq : List Addr} {j : Nat} {v : V} {d : D}, Reps K F H vs ds fp → Rep K F H v d fq → (∀ a ∈ fq, a ∉ fp) → j < ds.length → ∃ fp', Reps K F H (vs.set j v) (ds.set j d) fp' ∧ ∀ a ∈ fp', a ∈ fp ∨ a ∈ fq
  | _, _, _, _, _, _, _, .nil, _, _, h => by simp at h
  | _, _, _, fq, 0, v, d, .cons (fp := f1) (fq := f2) h1 h2 hd, r, hn, _ => ⟨fq ++ f2, .cons r h2 fun a ha z => hn a ha (List.mem_append_right _ z), fun a ha => by
    rcases List.mem_append.mp ha with q | q
    · exact .inr q
    · exact .inl (List.mem_append_right _ q)⟩
  | _, _, _, fq, j + 1, v, d, .cons (fp := f1) (fq := f2) h1 h2 hd, r, hn, hl => by
    obtain ⟨fp', r', m⟩ := reps_set h2 r (fun a ha z => hn a ha (List.mem_append_right _ z)) (by simpa using hl)
    refine ⟨f1 ++ fp', .cons h1 r' fun a ha z => ?_, fun a ha => ?_⟩
    · rcases m a z with q | q
      · exact hd a ha q
      · exact hn a q (List.mem_append_left _ ha)
    · rcases List.mem_append.mp ha with q | q
      · exact .inl (List.mem_append_left _ q)
      · rcases m a q with q | q
        · exact .inl (List.mem_append_right _ q)
        · exact .inr q
/-- an owned object of a slot is changed -/
theorem Rel.change {K : PySem.W.Frag} {F H H' : Hp} {σ : L2.St} {s : Env} {fps : Fps} {i : Nat} {v : V} {d' : D} {fp' : List Addr} (R : Rel K F H σ s fps) (hi : i < s.length) (hv : σ[i]? = some (some v)) (hk : ∀ a o, H a = some o → a ∉ fps i → H' a = some o)
    (hf : ∀ a ∈ fps i, F a = none) (r : Rep K F H' v d' fp') (hn : ∀ a ∈ fp', a ∈ fps i ∨ ∀ j, a ∉ fps j) : Rel K F H' σ (s.set i (some d')) (fun j => if j = i then fp' else fps j) := by
  refine ⟨fun a o e => hk a o (R.sub a o e) fun z => ?_, by rw [List.length_set]; exact R.len, fun j d e => ?_, fun j e => ?_, fun j k hjk a ha => ?_⟩
  · rw [hf a z] at e; cases e
  · rw [get_set hi] at e
    by_cases h : j = i
    · subst h
      rw [if_pos rfl] at e
      cases e
      exact ⟨v, hv, by simp only [if_true]; exact r⟩
    · rw [if_neg h] at e
      obtain ⟨w, h1, h2⟩ := R.rep j d e
      refine ⟨w, h1, ?_⟩
      simp only [if_neg h]
      exact h2.mono (fun _ _ e => e) fun a ha => ⟨fun o e => hk a o e (R.dis j i h a ha), (h2.own a ha).1⟩
  · rw [get_set hi] at e
    by_cases h : j = i
    · rw [if_pos h] at e; cases e
    · rw [if_neg h] at e
      simp only [if_neg h]
      exact R.nil j e
  · by_cases h : j = i
    · simp only [if_pos h] at ha
      by_cases h2 : k = i
      · exact absurd (h.trans h2.symm) hjk
      · simp only [if_neg h2]
        rcases hn a ha with q | q
        · exact R.dis i k (fun e => h2 e.symm) a q
        · exact q k
    · simp only [if_neg h] at ha
      by_cases h2 : k = i
      · simp only [if_pos h2]
        exact fun z => by
          rcases hn a z with q | q
          · exact R.dis j i h a ha q
          · exact q j ha
      · simp only [if_neg h2]; exact R.dis j k hjk a ha
theorem ix_same {n : Nat} {i : Int} {j : Nat} (h : ixOf n i = some j) : j < n := by
  unfold ixOf at h
  split at h
  · split at h
    · cases h; omega
    · cases h
  · split at h
    · cases h; omega
    · cases h
/-- x[k] = y, by values -/
def rSt (K : PySem.W.Frag) : TSet := fun o i v H Q => ∃ F d fp dk fk dy fy d', (∀ a o, F a = some o → H a = some o) ∧ Rep K F H o d fp ∧ Rep K F H i dk fk ∧ Rep K F H v dy fy ∧ (∀ a ∈ fy, a ∉ fp) ∧ storeAt d dk dy = some d' ∧
  ∀ H' fp', (∀ a o, H a = some o → a ∉ fp → H' a = some o) → (∀ a, H' a = none → H a = none) → Rep K F H' o d' fp' → (∀ a ∈ fp', a ∈ fp ∨ a ∈ fy ∨ H a = none) → Q H'
theorem set_st : PSet X (rSt X.K) := by
  intro pins s σ H o i v ov iv u Q I ro ri rv h
  obtain ⟨F, d, fp, dk, fk, dy, fy, d', m, r1, r2, r3, hn, e, q⟩ := h
  cases d <;> (try (simp only [storeAt, reduceCtorEq] at e; done))
  rename_i b xs
  cases b <;> (try (simp only [storeAt, reduceCtorEq] at e; done))
  cases dk <;> simp only [storeAt, reduceCtorEq, Option.map_eq_some_iff] at e
  rename_i k
  obtain ⟨j, e1, rfl⟩ := e
  obtain ⟨rfl, _⟩ := rep_int r2
  cases r1 with
  | @lstO a vs _ fp0 h hf hs ha =>
    have l1 := hs.len
    have hj : j < xs.length := ix_same e1
    refine set_list pins s σ H _ _ v ov iv u Q I ro ri rv ⟨a, vs, k, j, rfl, rfl, h, by rw [l1]; exact e1, ?_⟩
    have hu : ∀ b : Addr, b ≠ a → ∀ o, H b = some o → (upd H a (.lst (vs.set j v))) b = some o := fun b hb o e => by rw [upd_ne hb]; exact e
    have hs' : Reps X.K F (upd H a (.lst (vs.set j v))) vs xs fp0 := hs.mono (fun _ _ e => e) fun b hb => ⟨hu b (fun z => ha (z ▸ hb)), (hs.own b hb).1⟩
    have r3' : Rep X.K F (upd H a (.lst (vs.set j v))) v dy fy := r3.mono (fun _ _ e => e) fun b hb => ⟨hu b (fun z => hn b hb (z ▸ List.mem_cons_self)), (r3.own b hb).1⟩
    obtain ⟨fp', p', hp'⟩ := reps_set (j := j) hs' r3' (fun b hb z => hn b hb (List.mem_cons_of_mem _ z)) hj
    refine q _ (a :: fp') (fun b o e hb => hu b (fun z => hb (z ▸ List.mem_cons_self)) o e) (fun b e => ?_) (.lstO upd_same hf p' fun z => ?_) fun b hb => ?_
    · by_cases hb : b = a
      · subst hb; rw [upd_same] at e; cases e
      · rw [upd_ne hb] at e; exact e
    · rcases hp' a z with y | y
      · exact ha y
      · exact hn a y List.mem_cons_self
    · rcases List.mem_cons.mp hb with z | z
      · subst z; exact .inl List.mem_cons_self
      · rcases hp' b z with y | y
        · exact .inl (List.mem_cons_of_mem _ y)
        · exact .inr (.inl y)
def oSt (i : Nat) (fk fe : Env → R D) : Env → O := fun s => (fe s).O fun y s => match get s i with
    | some _ => (fk s).O fun k s => match get s i with
      | some d => match storeAt d k y with
        | some d' => .nxt (s.set i (some d'))
        | none => .bad
      | none => .bad
    | none => .bad
theorem Stp.change {F0 H0 F H H' : Hp} {s0 s s' : Env} {fps0 fps : Fps} {mv : List Nat} {i : Nat} {fp' : List Addr} (st : Stp mv F0 H0 s0 fps0 F H s fps) (hk : ∀ a o, H a = some o → a ∉ fps i → H' a = some o) (hd : ∀ a, H' a = none → H a = none)
    (hg : ∀ j, j ≠ i → get s' j = get s j) (hn : ∀ a ∈ fp', a ∈ fps i ∨ H a = none ∨ H0 a = none ∨ ∃ j ∈ mv, a ∈ fps0 j) : Stp (mv ++ [i]) F0 H0 s0 fps0 F H' s' (fun j => if j = i then fp' else fps j) := by
  have old : ∀ (a : Addr) (j : Nat), j ∈ mv ++ [i] → a ∈ fps j → H0 a = none ∨ ∃ k ∈ mv ++ [i], a ∈ fps0 k := fun a j hj z => by
    rcases st.back z with y | ⟨k, hk, y⟩ | ⟨_, y⟩
    · exact .inl y
    · exact .inr ⟨k, List.mem_append_left _ hk, y⟩
    · exact .inr ⟨j, hj, y⟩
  refine ⟨st.f, fun a o e k => ?_, fun a e => ?_, fun j hj a ha => ?_, fun j hj => ?_, fun a e => st.d a (hd a e)⟩
  · refine hk a o (st.h a o e fun j hj => k j (List.mem_append_left _ hj)) fun z => ?_
    rcases old a i (List.mem_append_right _ (List.mem_singleton.mpr rfl)) z with y | ⟨j, hj, y⟩
    · rw [e] at y; cases y
    · exact k j hj y
  · rcases st.nf a e with q | q | ⟨j, hj, q⟩
    · exact .inl q
    · exact .inr (.inl q)
    · exact .inr (.inr ⟨j, List.mem_append_left _ hj, q⟩)
  · by_cases hji : j = i
    · simp only [if_pos hji] at ha
      rcases hn a ha with q | q | q | ⟨k, hk, q⟩
      · exact old a i (List.mem_append_right _ (List.mem_singleton.mpr rfl)) q
      · exact .inl (st.d a q)
      · exact .inl q
      · exact .inr ⟨k, List.mem_append_left _ hk, q⟩
    · simp only [if_neg hji] at ha
      exact old a j hj ha
  · have hji : j ≠ i := fun z => hj (List.mem_append_right _ (List.mem_singleton.mpr z))
    have q := st.o j fun z => hj (List.mem_append_left _ z)
    exact ⟨(hg j hji).trans q.1, by simp only [if_neg hji]; exact q.2⟩
theorem get_set_ne {s : Env} {i j : Nat} {o : Option D} (h : j ≠ i) : get (s.set i o) j = get s j := by
  unfold get
  rw [List.getD_eq_getElem?_getD, List.getD_eq_getElem?_getD, List.getElem?_set_ne fun z => h z.symm]
theorem ss_st {x : Str} {xp sp : Pos} {k e : Expr} {i : Nat} {mvk vwk mve : List Nat} {fk fe : Env → R D} (he : PE X e (tE X.K mve [] fe)) (hg : PG X (.Subscript (.Name x xp) k sp) (gSub (tVar i) (tE X.K mvk vwk fk) (rSt X.K)))
    (h1 : swapsWithSole [.Subscript (.Name x xp) k sp] e pos.line X.env = pure false) (h2 : swappedStores [.Subscript (.Name x xp) k sp] e X.env = pure none) :
    PS X (.Assign [.Subscript (.Name x xp) k sp] e pos) (tS X.K (mve ++ mvk ++ [i]) [] (oSt i fk fe)) := ps_imp (ps_asg he hg h1 h2) fun D σ H h => by
  obtain ⟨F, s, fps, R, h⟩ := h
  refine ⟨F, s, fps, R, ?_⟩
  try dsimp only [Z.R.O, oSt] at h
  cases ee : fe s with
  | exc x s' => rw [ee] at h; exact h
  | bad => rw [ee] at h; exact h
  | ok dy s1 =>
    rw [ee] at h
    try dsimp only at h
    refine fun y H1 F1 fps1 fpy R1 st1 rs1 => ?_
    cases eg0 : get s1 i with
    | none => rw [eg0] at h; exact h.elim
    | some d0 =>
      rw [eg0] at h
      try dsimp only at h
      obtain ⟨v0, hv0, _⟩ := R1.rep i d0 eg0
      refine ⟨v0, hv0, F1, s1, fps1, R1, ?_⟩
      cases ek : fk s1 with
      | exc x s' => rw [ek] at h; exact h.elim
      | bad => rw [ek] at h; exact h.elim
      | ok dk s2 =>
        rw [ek] at h
        try dsimp only at h
        cases eg : get s2 i with
        | none => rw [eg] at h; exact h.elim
        | some d =>
          rw [eg] at h
          try dsimp only at h
          cases es : storeAt d dk dy with
          | none => rw [es] at h; exact h.elim
          | some d' =>
            rw [es] at h
            refine fun z H2 F2 fps2 fpk R2 st2 rs2 => ?_
            obtain ⟨v, hv, r⟩ := R2.rep i d eg
            rw [hv0] at hv
            cases hv
            have ry := rs1.on R1 st2 (.inl disj_nil)
            have fy : ∀ a ∈ fpy, (∀ j, a ∉ fps2 j) ∧ (H a = none ∨ ∃ j ∈ mve ++ mvk, a ∈ fps j) := fun a ha => by
              rcases ry.fr a ha with ⟨j, hj, _⟩ | q
              · cases hj
              · exact q
            have st := st1.trans st2
            refine ⟨F2, d, fps2 i, dk, fpk, dy, fpy, d', R2.sub, r, rs2.rep, ry.rep, fun a ha => (fy a ha).1 i, es, fun H' fp' hk hd r' hn => ?_⟩
            refine h σ H' F2 (fun j => if j = i then fp' else fps2 j) (R2.change (get_lt eg) hv0 hk (fun a ha => (R2.there ha).1) r' fun a ha => ?_) (st.change hk hd (fun j hj => get_set_ne hj) fun a ha => ?_) Kp.refl
            · rcases hn a ha with q | q | q
              · exact .inl q
              · exact .inr (fy a q).1
              · refine .inr fun j z => ?_
                obtain ⟨_, o, ho, _⟩ := R2.there z
                rw [q] at ho; cases ho
            · rcases hn a ha with q | q | q
              · exact .inl q
              · rcases (fy a q).2 with w | ⟨j, hj, w⟩
                · exact .inr (.inr (.inl w))
                · exact .inr (.inr (.inr ⟨j, hj, w⟩))
              · exact .inr (.inl q)
/-! ### x op= e -/
def rAug (K : PySem.W.Frag) (o : O2) : TIp := fun x y H Q => ∃ F d1 fp1 d2 fp2 d, (∀ a o, F a = some o → H a = some o) ∧ Rep K F H x d1 fp1 ∧ Rep K F H y d2 fp2 ∧ aug2 o d1 d2 = some d ∧ Give K false fp1 F H d Q
theorem ip_addZ : PIp X .Add (rAug X.K .add) := by
  intro pins s σ H x y v u Q I rx ry h
  obtain ⟨F, d1, fp1, d2, fp2, d, m, r1, r2, e, q⟩ := h
  cases d1 <;> cases d2 <;> simp only [aug2, reduceCtorEq] at e
  · obtain ⟨rfl, _⟩ := rep_int r1
    obtain ⟨rfl, _⟩ := rep_int r2
    cases e
    exact iop_add pins s σ H _ _ v u Q I rx ry ⟨_, _, rfl, rfl, give_int m q⟩
  · rename_i s1 s2
    obtain ⟨rfl, _, a1⟩ := rep_str r1
    obtain ⟨rfl, _, a2⟩ := rep_str r2
    by_cases hl : s1.length + s2.length ≤ SL
    · rw [if_pos hl] at e
      cases e
      exact iop_add_str pins s σ H _ _ v u Q I rx ry ⟨_, _, rfl, rfl, by rw [SX.S_len, SX.S_len, sl_eq]; exact hl, by rw [SX.S_cat]; exact give_str m (asc_app a1 a2) q⟩
    · rw [if_neg hl] at e; cases e
theorem ip_subZ : PIp X .Sub (rAug X.K .sub) := by
  intro pins s σ H x y v u Q I rx ry h
  obtain ⟨F, d1, fp1, d2, fp2, d, m, r1, r2, e, q⟩ := h
  cases d1 <;> cases d2 <;> simp only [aug2, reduceCtorEq] at e
  obtain ⟨rfl, _⟩ := rep_int r1
  obtain ⟨rfl, _⟩ := rep_int r2
  cases e
  exact iop_sub pins s σ H _ _ v u Q I rx ry ⟨_, _, rfl, rfl, give_int m q⟩
def oAug (i : Nat) (o : O2) (f : Env → R D) : Env → O := fun s => match get s i with
    | some _ => (f s).O fun y s => match get s i with
      | some x => match aug2 o x y with
        | some z => .nxt (s.set i (some z))
        | none => .bad
      | none => .bad
    | none => .bad
theorem ss_aug {st : Stmt} {i : Nat} {mv vw : List Nat} {f : Env → R D} {o : O2} (h : PS X st (tAug i (tE X.K mv vw f) (rAug X.K o))) : PS X st (tS X.K (mv ++ [i]) [i] (oAug i o f)) := ps_imp h fun D σ H h => by
  obtain ⟨F, s, fps, R, h⟩ := h
  try dsimp only [oAug] at h
  cases eg0 : get s i with
  | none => rw [eg0] at h; exact h.elim
  | some d0 =>
    rw [eg0] at h
    try dsimp only [Z.R.O] at h
    obtain ⟨v0, hv0, _⟩ := R.rep i d0 eg0
    refine ⟨v0, hv0, F, s, fps, R, ?_⟩
    cases e : f s with
    | exc x s' => rw [e] at h; exact h
    | bad => rw [e] at h; exact h
    | ok d s1 =>
      rw [e] at h
      try dsimp only at h
      refine fun v H1 F1 fps1 fp R1 st1 rs => ?_
      cases eg : get s1 i with
      | none => rw [eg] at h; exact h.elim
      | some d1 =>
        rw [eg] at h
        try dsimp only at h
        obtain ⟨v1, hv1, r1⟩ := R1.rep i d1 eg
        rw [hv0] at hv1
        cases hv1
        cases ea : aug2 o d1 d with
        | none => rw [ea] at h; exact h.elim
        | some z =>
          rw [ea] at h
          refine ⟨F1, d1, _, d, fp, z, R1.sub, r1, rs.rep, ea, fun w H2 F2 fp2 x r k => ?_⟩
          have R2 := R1.ext x
          have st2 := st1.trans (x.stp (mv := []) (s := s1) (fps := fps1))
          rw [List.append_nil] at st2
          obtain ⟨fps', R', st'⟩ := R2.asg' st2 i ⟨r, fun a ha => by
            rcases k a ha with q | ⟨q, _⟩
            · refine .inr ⟨fun j z => ?_, .inl (st1.d a q)⟩
              obtain ⟨_, o, ho, _⟩ := R1.there z
              rw [q] at ho; cases ho
            · cases q⟩
          exact h _ H2 F2 fps' R' st' kp_set
end
end Z

set_option Elab.async false
set_option linter.all false
set_option maxRecDepth 100000
namespace Z
open PySem PySem.Spec PyProof.Rows L2

/-! ### what is walked -/
/-- as long as the protected objects pr stand, J gives xs -/
structure ItOk (K : PySem.W.Frag) (J : It) (pr : List Addr) (F' H' : Hp) (xs : List D) : Prop where
  go : ∀ (i : Nat) (F2 H2 : Hp), (∀ a o, F' a = some o → F2 a = some o) → (∀ a o, F2 a = some o → H2 a = some o) → (∀ a ∈ pr, ∀ o, H' a = some o → H2 a = some o) → ∀ d, xs[i]? = some d →
    J.go i H2 ∧ ∀ x H3, J.yld i H2 x H3 → ∃ F3, Ext F2 H2 F3 H3 ∧ Rep K F3 H3 x d []
  stop : ∀ (i : Nat) (F2 H2 : Hp), (∀ a o, F' a = some o → F2 a = some o) → (∀ a o, F2 a = some o → H2 a = some o) → (∀ a ∈ pr, ∀ o, H' a = some o → H2 a = some o) → xs.length ≤ i → J.stop i H2
def Prot (vw : List Nat) (H' : Hp) (fps' : Fps) (pr : List Addr) : Prop := ∀ a ∈ pr, (∃ o, H' a = some o) ∧ ((∃ j ∈ vw, a ∈ fps' j) ∨ ∀ j, a ∉ fps' j)
def tR (K : PySem.W.Frag) (mv vw : List Nat) (f : Env → R (List D)) : TI := fun σ H Rw => ∃ F s fps, Rel K F H σ s fps ∧ match f s with
  | .ok xs s' => ∀ J pr H' F' fps', Rel K F' H' σ s' fps' → Stp mv F H s fps F' H' s' fps' → ItOk K J pr F' H' xs → Prot vw H' fps' pr → Rw J H'
  | _ => False
theorem pi_imp {X : Cx} {tg e : Expr} {t t' : TI} (h : PI X tg e t) (i : ∀ σ H Q, t' σ H Q → t σ H Q) : PI X tg e t' := ⟨fun pins s σ H Q I q => h.run pins s σ H Q I (i _ _ _ q)⟩
theorem pi_or {X : Cx} {tg e : Expr} {t t' : TI} (h : PI X tg e t) (h' : PI X tg e t') : PI X tg e (fun σ H R => t σ H R ∨ t' σ H R) := ⟨fun pins s σ H R I q => by
  rcases q with q | q
  · exact h.run pins s σ H R I q
  · exact h'.run pins s σ H R I q⟩
section
variable {K : PySem.W.Frag} {F H : Hp} {fp : List Addr}
theorem itl_ok {a : Addr} {vs : List V} {ds : List D} {pr : List Addr} (hs : ∀ F2 H2 : Hp, (∀ a o, F a = some o → F2 a = some o) → (∀ a o, F2 a = some o → H2 a = some o) → (∀ a ∈ pr, ∀ o, H a = some o → H2 a = some o) → SqL K H2 a vs) (r : Reps K F H vs ds []) : ItOk K (Itl K a) pr F H ds := by
  refine ⟨fun i F2 H2 h1 h2 h3 d e => ?_, fun i F2 H2 h1 h2 h3 e => ?_⟩
  · have hq := hs F2 H2 h1 h2 h3
    obtain ⟨v, fq, e1, r1, m⟩ := r.at_ e
    have : fq = [] := by
      cases fq with
      | nil => rfl
      | cons x _ => exact absurd (m x List.mem_cons_self) (fun z => nomatch z)
    subst this
    refine ⟨⟨vs, v, hq, e1⟩, fun x H3 y => ?_⟩
    obtain ⟨rfl, y⟩ := y
    have q := y vs hq
    rw [e1] at q
    cases q
    exact ⟨F2, Ext.refl h2, r1.still h1⟩
  · exact ⟨vs, hs F2 H2 h1 h2 h3, by rw [r.len]; exact e⟩
theorem itt_ok {a : Addr} {vs : List V} {ds : List D} (t : SqT K F a vs) (r : Reps K F H vs ds []) : ItOk K (Itt K a) [] F H ds := by
  refine ⟨fun i F2 H2 h1 h2 h3 d e => ?_, fun i F2 H2 h1 h2 h3 e => ?_⟩
  · have hq := sqT_mono (sqT_mono t h1) h2
    obtain ⟨v, fq, e1, r1, m⟩ := r.at_ e
    have : fq = [] := by
      cases fq with
      | nil => rfl
      | cons x _ => exact absurd (m x List.mem_cons_self) (fun z => nomatch z)
    subst this
    refine ⟨⟨vs, v, hq, e1⟩, fun x H3 y => ?_⟩
    obtain ⟨rfl, y⟩ := y
    have q := y vs hq
    rw [e1] at q
    cases q
    exact ⟨F2, Ext.refl h2, r1.still h1⟩
  · exact ⟨vs, sqT_mono (sqT_mono t h1) h2, by rw [r.len]; exact e⟩
theorem its_ok {z : List Nat} (hz : asc z = true) : ItOk K (Its (SX.S z)) [] F H (z.map fun c => .str [c]) := by
  refine ⟨fun i F2 H2 h1 h2 h3 d e => ?_, fun i F2 H2 h1 h2 h3 e => ?_⟩
  · simp only [List.getElem?_map, Option.map_eq_some_iff] at e
    obtain ⟨c, e1, rfl⟩ := e
    have hi : i < z.length := (List.getElem?_eq_some_iff.mp e1).1
    have e2 : (SX.S z).cps[i]? = some c := by simpa using e1
    refine ⟨by show i < z.toArray.size; simpa using hi, fun x H3 y => ?_⟩
    obtain ⟨rfl, c', e3, rfl⟩ := y
    rw [e2] at e3
    cases e3
    exact ⟨F2, Ext.refl h2, .str [c] (by simp [asc, asc_mem.mp hz c (List.mem_of_getElem? e1)])⟩
  · show z.toArray.size ≤ i
    simpa using e
theorem rangeUp_get : ∀ (n : Nat) (lo : Int) (i : Nat) (d : D), (rangeUp lo n)[i]? = some d → i < n ∧ d = .int (lo + i)
  | 0, _, _, _, h => by simp [rangeUp] at h
  | n + 1, lo, 0, d, h => by simp [rangeUp] at h; subst h; exact ⟨by omega, by simp⟩
  | n + 1, lo, i + 1, d, h => by
    obtain ⟨h1, h2⟩ := rangeUp_get n (lo + 1) i d (by simpa [rangeUp] using h)
    refine ⟨by omega, ?_⟩
    rw [h2]
    congr 1
    omega
theorem rangeUp_len : ∀ (n : Nat) (lo : Int), (rangeUp lo n).length = n
  | 0, _ => rfl
  | n + 1, lo => by simp [rangeUp, rangeUp_len n]
theorem itr_ok {lo : Int} {n : Nat} : ItOk K (Itr lo n) [] F H (rangeUp lo n) := by
  refine ⟨fun i F2 H2 h1 h2 h3 d e => ?_, fun i F2 H2 h1 h2 h3 e => ?_⟩
  · obtain ⟨h, rfl⟩ := rangeUp_get n lo i d e
    refine ⟨h, fun x H3 y => ?_⟩
    obtain ⟨rfl, rfl⟩ := y
    exact ⟨F2, Ext.refl h2, .int _⟩
  · rw [rangeUp_len] at e
    exact e
end
section
variable {X : Cx} {tg : Expr}
def fOf (f : Env → R D) : Env → R (List D) := fun s => (f s).bind fun d s => match iterOf d with
    | some xs => if ownL xs then .bad else .ok xs s
    | none => .bad
theorem sr_of {e : Expr} {mv vw : List Nat} {f : Env → R D} (h : PE X e (tE X.K mv vw f)) : PI X tg e (tR X.K mv vw (fOf f)) := pi_imp (pi_or (pi_list h) (pi_or (pi_tup h) (pi_str h))) fun σ H Rw h => by
  obtain ⟨F, s, fps, R, h⟩ := h
  try dsimp only [fOf] at h
  cases e : f s with
  | exc x s' => rw [e] at h; exact h.elim
  | bad => rw [e] at h; exact h.elim
  | ok d s1 =>
    rw [e] at h
    simp only [bind_ok] at h
    cases d <;> (try (simp only [iterOf] at h; done))
    · rename_i z
      refine .inr (.inr ⟨F, s, fps, R, ?_⟩)
      rw [e]
      refine fun v H1 F1 fps1 fp R1 st1 rs => ?_
      obtain ⟨rfl, _, hz⟩ := rep_str rs.rep
      simp only [iterOf] at h
      by_cases hl : z.length ≤ SL
      · simp only [if_pos hl] at h
        have ho : ownL (z.map fun c => D.str [c]) = false := by
          have : ∀ l : List Nat, ownL (l.map fun c => D.str [c]) = false := by
            intro l
            induction l with
            | nil => rfl
            | cons c l ih => simp [ownL, D.own, ih]
          exact this z
        simp only [ho, Bool.false_eq_true, if_false] at h
        exact ⟨_, rfl, h (Its (SX.S z)) [] H1 F1 fps1 R1 st1 (its_ok hz) fun a ha => nomatch ha⟩
      · simp only [if_neg hl] at h
    · rename_i xs
      refine .inr (.inl ⟨F, s, fps, R, ?_⟩)
      rw [e]
      refine fun v H1 F1 fps1 fp R1 st1 rs => ?_
      simp only [iterOf] at h
      cases ho : ownL xs with
      | true => simp only [ho, if_true] at h
      | false =>
        simp only [ho, Bool.false_eq_true, if_false] at h
        obtain ⟨a, vs, rfl, t0, t1, p1⟩ := rep_tup R1.sub rs.rep
        have p1 := fps_nil p1 ho
        exact ⟨a, rfl, ⟨vs, t1⟩, h (Itt X.K a) [] H1 F1 fps1 R1 st1 (itt_ok t0 p1) fun a ha => nomatch ha⟩
    · rename_i o xs
      refine .inl ⟨F, s, fps, R, ?_⟩
      rw [e]
      refine fun v H1 F1 fps1 fp R1 st1 rs => ?_
      simp only [iterOf] at h
      cases ho : ownL xs with
      | true => simp only [ho, if_true] at h
      | false =>
        simp only [ho, Bool.false_eq_true, if_false] at h
        have fr := rs.fr
        cases rs.rep with
        | lstF t p =>
          exact ⟨_, rfl, ⟨_, sqL_mono t R1.sub⟩, h (Itl X.K _) [] H1 F1 fps1 R1 st1 (itl_ok (fun F2 H2 h1 h2 _ => sqL_mono (sqL_mono t h1) h2) p) fun a ha => nomatch ha⟩
        | @lstO a vs _ fp0 t hf p hn =>
          have p1 := fps_nil p ho
          refine ⟨a, rfl, ⟨_, SqL.of t⟩, h (Itl X.K a) [a] H1 F1 fps1 R1 st1 (itl_ok (fun F2 H2 _ _ h3 => SqL.of (h3 a List.mem_cons_self _ t)) p1) fun b hb => ?_⟩
          have : b = a := List.mem_singleton.mp hb
          subst this
          refine ⟨⟨_, t⟩, ?_⟩
          rcases fr b List.mem_cons_self with q | q
          · exact .inl q
          · exact .inr q.1
/-- one written argument -/
theorem sa_1 {e : Expr} {mv vw : List Nat} {f : Env → R D} (h : PE X e (tE X.K mv vw f)) (hs : starEach [e] X.env = [(false, eval e X.env)]) : PA X [e] (tCons (tE X.K mv vw f) tNil) := pa_cons h pa_nil hs
def fRng (f : Env → R D) : Env → R (List D) := fun s => (f s).bind fun x s => R.of ((asI x).bind rng1) s
theorem sr_rng {a : Expr} {p pos : Pos} {mv vw : List Nat} {f : Env → R D} (hg : Gl X "range") (hm : X.mg "range" = none) (h : PE X a (tE X.K mv vw f)) (hs : starEach [a] X.env = [(false, eval a X.env)]) : PI X tg (.Call (.Name "range" p) [a] [] pos) (tR X.K mv vw (fRng f)) :=
  pi_imp (pi_range1 hg hm (sa_1 h hs) hs) fun σ H Rw h => by
  obtain ⟨F, s, fps, R, h⟩ := h
  refine ⟨F, s, fps, R, ?_⟩
  try dsimp only [fRng] at h
  cases e : f s with
  | exc x s' => rw [e] at h; exact h
  | bad => rw [e] at h; exact h
  | ok d s1 =>
    rw [e] at h
    simp only [bind_ok] at h
    refine fun v H1 F1 fps1 fp R1 st1 rs => ?_
    cases d <;> simp only [asI, Option.bind_none, of_none, Option.bind_some] at h
    rename_i j
    obtain ⟨rfl, _⟩ := rep_int rs.rep
    unfold rng1 at h
    by_cases hj : j < 4611686018427387904 ∧ -4611686018427387904 ≤ j
    · rw [if_pos hj] at h
      exact ⟨j, rfl, by omega, by omega, h (Itr 0 j.toNat) [] H1 F1 fps1 R1 st1 itr_ok fun a ha => nomatch ha⟩
    · rw [if_neg hj] at h; exact h.elim

/-! ### loops -/
def oFor (tg : T) (f : Env → R (List D)) (b : Env → O) : Env → O := fun s => (f s).O fun xs s => floop (fun x s => match assignT tg x s with
      | some s => b s
      | none => .bad) xs s
theorem tS_for {K : PySem.W.Frag} {mva vw mvb asb : List Nat} {fa : Env → R (List D)} {fb : Env → O} {tg : T} (hd : disj vw (mvb ++ tg.sl) = true) {D : Ends} {σ : L2.St} {H : Hp} (h : tS K (mva ++ (mvb ++ tg.sl)) (asb ++ tg.sl) (oFor tg fa fb) D σ H) :
    tFor (tR K mva vw fa) (gT K tg) (tS K mvb asb fb) D σ H := by
  obtain ⟨F, s, fps, R, h⟩ := h
  refine ⟨F, s, fps, R, ?_⟩
  try dsimp only [oFor, Z.R.O] at h
  cases e : fa s with
  | exc x s' => rw [e] at h; exact h
  | bad => rw [e] at h; exact h
  | ok xs s1 =>
    rw [e] at h
    try dsimp only at h
    refine fun J pr H1 F1 fps1 R1 st1 it hp => ?_
    refine ⟨fun i m σ2 H2 => m = xs.length - i ∧ i ≤ xs.length ∧ ∃ F2 s2 fps2, Rel K F2 H2 σ2 s2 fps2 ∧ Stp (mvb ++ tg.sl) F1 H1 s1 fps1 F2 H2 s2 fps2 ∧ Kp (asb ++ tg.sl) σ σ2 ∧
      Ends' K (mva ++ (mvb ++ tg.sl)) (asb ++ tg.sl) σ F H s fps D (floop (fun x s => match assignT tg x s with | some s => fb s | none => .bad) (xs.drop i) s2), ⟨xs.length, by simp, Nat.zero_le _, F1, s1, fps1, R1, .refl, .refl, h⟩, ?_⟩
    rintro i m σ2 H2 ⟨rfl, hi, F2, s2, fps2, R2, st2, k2, h2⟩
    have prot : ∀ a ∈ pr, ∀ o, H1 a = some o → H2 a = some o := fun a ha o e => by
      refine st2.h a o e fun j hj z => ?_
      rcases (hp a ha).2 with ⟨k, hk, q⟩ | q
      · exact R1.dis k j (fun e => disj_not hd hk (e ▸ hj)) a q z
      · exact q j z
    by_cases hlt : i < xs.length
    · have e1 : xs[i]? = some xs[i] := List.getElem?_eq_getElem hlt
      obtain ⟨hgo, hy⟩ := it.go i F2 H2 st2.f R2.sub prot _ e1
      rw [List.drop_eq_getElem_cons hlt] at h2
      refine .inr ⟨hgo, fun σ3 H3 => (xs.length - (i + 1) = xs.length - (i + 1) ∧ i + 1 ≤ xs.length ∧ ∃ F3 s3 fps3, Rel K F3 H3 σ3 s3 fps3 ∧ Stp (mvb ++ tg.sl) F1 H1 s1 fps1 F3 H3 s3 fps3 ∧ Kp (asb ++ tg.sl) σ σ3 ∧
        Ends' K (mva ++ (mvb ++ tg.sl)) (asb ++ tg.sl) σ F H s fps D (floop (fun x s => match assignT tg x s with | some s => fb s | none => .bad) (xs.drop (i + 1)) s3)), fun σ' H' hN => ⟨xs.length - (i + 1), by omega, hN⟩, fun x H3 y => ?_⟩
      obtain ⟨F3, x3, r3⟩ := hy x H3 y
      have R3 := R2.ext x3
      unfold floop at h2
      cases ea : assignT tg xs[i] s2 with
      | none => rw [ea] at h2; exact h2.elim
      | some s3 =>
        rw [ea] at h2
        refine tgt (fp := []) R3 r3 (fun a ha => nomatch ha) ea fun σ' fps' R' k A => ?_
        have st3 : Stp (mvb ++ tg.sl) F1 H1 s1 fps1 F3 H3 s2 fps2 := by
          have q := st2.trans (x3.stp (mv := []) (s := s2) (fps := fps2))
          rw [List.append_nil] at q
          exact q
        have st3' : Stp (mvb ++ tg.sl) F1 H1 s1 fps1 F3 H3 s3 fps' := (A.stp st3 fun a ha => nomatch ha).weak fun j hj => by
          rcases List.mem_append.mp hj with q | q
          · exact q
          · exact List.mem_append_right _ q
        have k3 : Kp (asb ++ tg.sl) σ σ' := (k2.trans k).weak fun j hj => by
          rcases List.mem_append.mp hj with q | q
          · exact q
          · exact List.mem_append_right _ q
        refine ⟨F3, s3, fps', R', ?_⟩
        try dsimp only at h2
        have full : ∀ {F4 H4 : Hp} {s4 : Env} {fps4 : Fps}, Stp mvb F3 H3 s3 fps' F4 H4 s4 fps4 → Stp (mva ++ (mvb ++ tg.sl)) F H s fps F4 H4 s4 fps4 := fun st4 => st1.trans ((st3'.trans st4).weak fun j hj => by
          rcases List.mem_append.mp hj with q | q
          · exact q
          · exact List.mem_append_left _ q)
        have inner : ∀ {F4 H4 : Hp} {s4 : Env} {fps4 : Fps}, Stp mvb F3 H3 s3 fps' F4 H4 s4 fps4 → Stp (mvb ++ tg.sl) F1 H1 s1 fps1 F4 H4 s4 fps4 := fun st4 => (st3'.trans st4).weak fun j hj => by
          rcases List.mem_append.mp hj with q | q
          · exact q
          · exact List.mem_append_left _ q
        have kk : ∀ {σ4 : L2.St}, Kp asb σ' σ4 → Kp (asb ++ tg.sl) σ σ4 := fun k4 => (k3.trans k4).weak fun j hj => by
          rcases List.mem_append.mp hj with q | q
          · exact q
          · exact List.mem_append_left _ q
        cases eb : fb s3 with
        | nxt s4 =>
          rw [eb] at h2
          exact fun σ4 H4 F4 fps4 R4 st4 k4 => ⟨rfl, hlt, F4, s4, fps4, R4, inner st4, kk k4, h2⟩
        | cnt s4 =>
          rw [eb] at h2
          exact fun σ4 H4 F4 fps4 R4 st4 k4 => ⟨rfl, hlt, F4, s4, fps4, R4, inner st4, kk k4, h2⟩
        | brk s4 =>
          rw [eb] at h2
          exact fun σ4 H4 F4 fps4 R4 st4 k4 => h2 σ4 H4 F4 fps4 R4 (full st4) (kk k4)
        | ret d s4 =>
          rw [eb] at h2
          refine fun v σ4 H4 F4 fps4 fp4 R4 st4 k4 rs => h2 v σ4 H4 F4 fps4 fp4 R4 (full st4) (kk k4) ?_
          exact res_weak ((rs.later st3').later st1) (fun j hj => by
            rcases List.mem_append.mp hj with q | q
            · exact List.mem_append_left _ q
            · rcases List.mem_append.mp q with q | q
              · exact List.mem_append_right _ q
              · exact List.mem_append_right _ (List.mem_append_left _ q)) fun _ z => z
        | exc x s4 => rw [eb] at h2; exact h2.elim
        | bad => rw [eb] at h2; exact h2.elim
    · have : i = xs.length := by omega
      subst this
      refine .inl ⟨it.stop _ F2 H2 st2.f R2.sub prot (Nat.le_refl _), ?_⟩
      rw [List.drop_length] at h2
      exact h2 σ2 H2 F2 fps2 R2 (st1.trans st2) k2
theorem ss_for {iter : Expr} {body : List Stmt} {pos : Pos} {mva vw mvb asb : List Nat} {fa : Env → R (List D)} {fb : Env → O} {t : T} (hp : PassesOwn (model X.prog X.w) X.A X.env X.xe) (hc : X.calm = true) (hi : PI X tg iter (tR X.K mva vw fa)) (hg : PG X tg (gT X.K t))
    (hb : PSs X body (tS X.K mvb asb fb)) (hs : ∀ x, foldedSetIterable iter X.env x = pure x) (hd : disj vw (mvb ++ t.sl) = true) : PS X (.For tg iter body [] pos) (tS X.K (mva ++ (mvb ++ t.sl)) (asb ++ t.sl) (oFor t fa fb)) :=
  ps_imp (ps_for hp hc hi hg hb hs) fun D σ H h => tS_for hd h
def oWh (c : Env → R D) (b : Env → O) : Env → O := fun s => wloop c b W s
theorem tS_while {K : PySem.W.Frag} {mvc mvb asb : List Nat} {fc : Env → R D} {fb : Env → O} {D : Ends} {σ : L2.St} {H : Hp} (h : tS K (mvc ++ mvb) asb (oWh fc fb) D σ H) : tWhile (tT K mvc fc) (tS K mvb asb fb) D σ H := by
  obtain ⟨F, s, fps, R, h⟩ := h
  unfold oWh at h
  have idem : ∀ {j : Nat} {a b : List Nat}, j ∈ (a ++ b) ++ (a ++ b) → j ∈ a ++ b := fun hj => (List.mem_append.mp hj).elim id id
  refine ⟨fun m σ2 H2 => ∃ F2 s2 fps2, Rel K F2 H2 σ2 s2 fps2 ∧ Stp (mvc ++ mvb) F H s fps F2 H2 s2 fps2 ∧ Kp asb σ σ2 ∧ Ends' K (mvc ++ mvb) asb σ F H s fps D (wloop fc fb m s2), ⟨W, F, s, fps, R, .refl, .refl, h⟩, ?_⟩
  rintro m σ2 H2 ⟨F2, s2, fps2, R2, st2, k2, h2⟩
  cases m with
  | zero => exact h2.elim
  | succ m =>
    refine ⟨F2, s2, fps2, R2, ?_⟩
    unfold wloop at h2
    cases e : fc s2 with
    | exc x s' => rw [e] at h2; exact h2.elim
    | bad => rw [e] at h2; exact h2.elim
    | ok d s3 =>
      rw [e] at h2
      try dsimp only at h2 ⊢
      cases eb : asB d with
      | none => rw [eb] at h2; exact h2.elim
      | some b =>
        rw [eb] at h2
        try dsimp only
        refine fun H3 F3 fps3 R3 st3 => ?_
        have st3' : Stp (mvc ++ mvb) F H s fps F3 H3 s3 fps3 := (st2.trans st3).weak fun j hj => by
          rcases List.mem_append.mp hj with q | q
          · exact q
          · exact List.mem_append_left _ q
        cases b with
        | false =>
          exact h2 σ2 H3 F3 fps3 R3 st3' k2
        | true =>
          refine ⟨fun σ4 H4 => ∃ F4 s4 fps4, Rel K F4 H4 σ4 s4 fps4 ∧ Stp (mvc ++ mvb) F H s fps F4 H4 s4 fps4 ∧ Kp asb σ σ4 ∧ Ends' K (mvc ++ mvb) asb σ F H s fps D (wloop fc fb m s4), fun σ4 H4 hN => ⟨m, Nat.lt_succ_self _, hN⟩, F3, s3, fps3, R3, ?_⟩
          try dsimp only at h2
          have full : ∀ {F4 H4 : Hp} {s4 : Env} {fps4 : Fps}, Stp mvb F3 H3 s3 fps3 F4 H4 s4 fps4 → Stp (mvc ++ mvb) F H s fps F4 H4 s4 fps4 := fun st4 => (st3'.trans st4).weak fun j hj => by
            rcases List.mem_append.mp hj with q | q
            · exact q
            · exact List.mem_append_right _ q
          have kk : ∀ {σ4 : L2.St}, Kp asb σ2 σ4 → Kp asb σ σ4 := fun k4 => (k2.trans k4).weak fun j hj => (List.mem_append.mp hj).elim id id
          cases ef : fb s3 with
          | nxt s4 =>
            rw [ef] at h2
            exact fun σ4 H4 F4 fps4 R4 st4 k4 => ⟨F4, s4, fps4, R4, full st4, kk k4, h2⟩
          | cnt s4 =>
            rw [ef] at h2
            exact fun σ4 H4 F4 fps4 R4 st4 k4 => ⟨F4, s4, fps4, R4, full st4, kk k4, h2⟩
          | brk s4 =>
            rw [ef] at h2
            exact fun σ4 H4 F4 fps4 R4 st4 k4 => h2 σ4 H4 F4 fps4 R4 (full st4) (kk k4)
          | ret d s4 =>
            rw [ef] at h2
            exact fun v σ4 H4 F4 fps4 fp4 R4 st4 k4 rs => h2 v σ4 H4 F4 fps4 fp4 R4 (full st4) (kk k4) (res_weak (rs.later st3') (fun j hj => by
              rcases List.mem_append.mp hj with q | q
              · exact q
              · exact List.mem_append_right _ q) fun _ z => z)
          | exc x s4 => rw [ef] at h2; exact h2.elim
          | bad => rw [ef] at h2; exact h2.elim
theorem ss_while {c : Expr} {body : List Stmt} {pos : Pos} {mvc mvb asb : List Nat} {fc : Env → R D} {fb : Env → O} (hp : PassesOwn (model X.prog X.w) X.A X.env X.xe) (hc : PT X c (tT X.K mvc fc)) (hb : PSs X body (tS X.K mvb asb fb)) :
    PS X (.While c body [] pos) (tS X.K (mvc ++ mvb) asb (oWh fc fb)) := ps_imp (ps_while hp hc hb) fun D σ H h => tS_while h
end
end Z

set_option Elab.async false
set_option linter.all false
set_option maxRecDepth 100000
namespace Z
open PySem PySem.Spec PyProof.Rows L2

/-! ### comprehensions -/
def wf (own : List Nat) (fps : Fps) : Fps := fun j => if j ∈ own then [] else fps j
theorem wf_in {own : List Nat} {fps : Fps} {j : Nat} (h : j ∈ own) : wf own fps j = [] := if_pos h
theorem wf_out {own : List Nat} {fps : Fps} {j : Nat} (h : j ∉ own) : wf own fps j = fps j := if_neg h
theorem wipe_len : ∀ (s : Env) (own : List Nat), (Z.wipe s own).length = s.length
  | _, [] => rfl
  | s, i :: own => by show ((Z.wipe s own).set i none).length = _; rw [List.length_set, wipe_len s own]
theorem get_ge {s : Env} {j : Nat} (h : s.length ≤ j) : get s j = none := by
  unfold get
  rw [List.getD_eq_getElem?_getD, List.getElem?_eq_none h]
  rfl
theorem get_wipe : ∀ (s : Env) (own : List Nat) (j : Nat), get (Z.wipe s own) j = if j ∈ own then none else get s j
  | _, [], j => by simp [Z.wipe]
  | s, i :: own, j => by
    show get ((Z.wipe s own).set i none) j = _
    by_cases hi : i < (Z.wipe s own).length
    · rw [get_set hi, get_wipe s own j]
      by_cases h : j = i
      · simp [h]
      · by_cases h2 : j ∈ own
        · simp [h, h2]
        · simp [h, h2]
    · have e : (Z.wipe s own).set i none = Z.wipe s own := List.set_eq_of_length_le (by omega)
      rw [e, get_wipe s own j]
      by_cases h : j = i
      · subst h
        rw [wipe_len] at hi
        simp [get_ge (show s.length ≤ j by omega)]
      · by_cases h2 : j ∈ own
        · simp [h2]
        · simp [h, h2]
theorem restore_len : ∀ (o s : Env) (own : List Nat), (restore o s own).length = s.length
  | _, _, [] => rfl
  | o, s, i :: own => by show ((restore o s own).set i _).length = _; rw [List.length_set, restore_len o s own]
theorem get_restore {o s : Env} (hl : o.length = s.length) : ∀ (own : List Nat) (j : Nat), get (restore o s own) j = if j ∈ own then get o j else get s j
  | [], j => by simp [restore]
  | i :: own, j => by
    show get ((restore o s own).set i (get o i)) j = _
    by_cases hi : i < (restore o s own).length
    · rw [get_set hi, get_restore hl own j]
      by_cases h : j = i
      · simp [h]
      · by_cases h2 : j ∈ own
        · simp [h, h2]
        · simp [h, h2]
    · have e : (restore o s own).set i (get o i) = restore o s own := List.set_eq_of_length_le (by omega)
      rw [e, get_restore hl own j]
      by_cases h : j = i
      · subst h
        rw [restore_len] at hi
        simp [get_ge (show s.length ≤ j by omega), get_ge (show o.length ≤ j by omega)]
      · by_cases h2 : j ∈ own
        · simp [h2]
        · simp [h, h2]
section
variable {K : PySem.W.Frag} {F H F1 H1 : Hp} {σ : L2.St} {s s1 : Env} {fps fps1 : Fps} {own M : List Nat}
theorem Rel.wiped (R : Rel K F H σ s fps) (own : List Nat) : Rel K F H (L2.wipe σ own) (Z.wipe s own) (wf own fps) := by
  refine ⟨R.sub, by rw [wipe_len, L2.wipe_length]; exact R.len, fun j d e => ?_, fun j e => ?_, fun i j hij a ha => ?_⟩
  · rw [get_wipe] at e
    by_cases h : j ∈ own
    · rw [if_pos h] at e; cases e
    · rw [if_neg h] at e
      obtain ⟨v, h1, h2⟩ := R.rep j d e
      exact ⟨v, by rw [L2.wipe_out h]; exact h1, by rw [wf_out h]; exact h2⟩
  · rw [get_wipe] at e
    by_cases h : j ∈ own
    · exact wf_in h
    · rw [if_neg h] at e
      rw [wf_out h]; exact R.nil j e
  · by_cases h : i ∈ own
    · rw [wf_in h] at ha; cases ha
    · rw [wf_out h] at ha
      by_cases h2 : j ∈ own
      · rw [wf_in h2]; exact fun z => nomatch z
      · rw [wf_out h2]; exact R.dis i j hij a ha
def minus (M own : List Nat) : List Nat := M.filter fun j => !own.contains j
theorem mem_minus {j : Nat} : j ∈ minus M own ↔ j ∈ M ∧ j ∉ own := by simp [minus]
theorem Stp.wiped (st : Stp M F H (Z.wipe s own) (wf own fps) F1 H1 s1 fps1) : Stp (minus M own) F H (Z.wipe s own) (wf own fps) F1 H1 (Z.wipe s1 own) (wf own fps1) := by
  have back : ∀ {a : Addr} {j : Nat}, j ∈ M → a ∈ wf own fps j → ∃ k ∈ minus M own, a ∈ wf own fps k := fun {a j} hj z => by
    by_cases h : j ∈ own
    · rw [wf_in h] at z; cases z
    · exact ⟨j, mem_minus.mpr ⟨hj, h⟩, z⟩
  refine ⟨st.f, fun a o e k => st.h a o e fun j hj z => ?_, fun a e => ?_, fun j hj a ha => ?_, fun j hj => ?_, st.d⟩
  · obtain ⟨i, hi, q⟩ := back hj z
    exact k i hi q
  · rcases st.nf a e with q | q | ⟨j, hj, q⟩
    · exact .inl q
    · exact .inr (.inl q)
    · exact .inr (.inr (back hj q))
  · obtain ⟨h1, h2⟩ := mem_minus.mp hj
    rw [wf_out h2] at ha
    rcases st.u j h1 a ha with q | ⟨k, hk, q⟩
    · exact .inl q
    · exact .inr (back hk q)
  · by_cases h : j ∈ own
    · rw [get_wipe, get_wipe, if_pos h, if_pos h, wf_in h, wf_in h]
      exact ⟨rfl, rfl⟩
    · have hm : j ∉ M := fun z => hj (mem_minus.mpr ⟨z, h⟩)
      have q := st.o j hm
      refine ⟨?_, by rw [wf_out h]; exact q.2⟩
      rw [get_wipe, if_neg h]
      exact q.1
theorem assignT_len : ∀ {tg : T} {d : D} {s s' : Env}, assignT tg d s = some s' → s'.length = s.length := by
  intro tg d s s' h
  have key : ∀ (l : List (Nat × D)) (s : Env), (l.foldl (fun s p => s.set p.1 (some p.2)) s).length = s.length := by
    intro l
    induction l with
    | nil => intro s; rfl
    | cons p l ih => intro s; rw [List.foldl_cons, ih, List.length_set]
  cases tg with
  | nm i =>
    simp only [assignT, Option.some.injEq] at h
    rw [← h, List.length_set]
  | tp is =>
    cases d <;> simp only [assignT, reduceCtorEq] at h
    split at h
    · cases h
      exact key _ _
    · cases h
theorem wipe_kp {σ σ2 : L2.St} {is own : List Nat} (k : Kp is (L2.wipe σ own) σ2) (hl : σ2.length = σ.length) (hs : ∀ i ∈ is, i ∈ own) : L2.wipe σ2 own = L2.wipe σ own := by
  refine List.ext_getElem? fun i => ?_
  by_cases h : i ∈ own
  · have q : ∀ τ : L2.St, i < τ.length → (L2.wipe τ own)[i]? = some none := by
      intro τ hi
      have hlen : i < (L2.wipe τ own).length := by rw [L2.wipe_length]; exact hi
      rw [List.getElem?_eq_getElem hlen]
      cases e : (L2.wipe τ own)[i] with
      | none => rfl
      | some x =>
        have e2 : (L2.wipe τ own)[i]? = some (some x) := by rw [List.getElem?_eq_getElem hlen, e]
        exact absurd h (L2.wipe_some e2).2
    by_cases hi : i < σ.length
    · rw [q σ2 (by omega), q σ hi]
    · rw [List.getElem?_eq_none (by rw [L2.wipe_length]; omega), List.getElem?_eq_none (by rw [L2.wipe_length]; omega)]
  · rw [L2.wipe_out h, ← k i fun z => h (hs i z)]
end
def fBody (tg : T) (own : List Nat) (fc fe : Env → R D) : D → Env → R (Option D) := fun x s => match assignT tg x (Z.wipe s own) with
      | none => .bad
      | some s => (fc s).bind fun b s => match asB b with
        | some true => (fe s).bind fun y s => .ok (some y) s
        | some false => .ok none s
        | none => .bad
theorem fBody_none {tg : T} {own : List Nat} {fc fe : Env → R D} {x : D} {s : Env} (h : assignT tg x (Z.wipe s own) = none) : fBody tg own fc fe x s = .bad := by unfold fBody; rw [h]
theorem fBody_some {tg : T} {own : List Nat} {fc fe : Env → R D} {x : D} {s s4 : Env} (h : assignT tg x (Z.wipe s own) = some s4) : fBody tg own fc fe x s = (fc s4).bind fun b s => match asB b with
        | some true => (fe s).bind fun y s => .ok (some y) s
        | some false => .ok none s
        | none => .bad := by unfold fBody; rw [h]
def fComp (tg : T) (own : List Nat) (fs : Env → R (List D)) (fc fe : Env → R D) : Env → R D := fun s => (fs s).bind fun xs s1 => if SL < xs.length then .bad else (compL (fBody tg own fc fe) xs s1).bind fun ys s2 => .ok (.lst true ys) (restore s1 s2 own)
theorem tE_comp {K : PySem.W.Frag} {mvs vws mvc mve : List Nat} {fs : Env → R (List D)} {fc fe : Env → R D} {tg : T} {own : List Nat} (hd : disj vws (minus (tg.sl ++ mvc ++ mve) own) = true) (ho : ∀ i ∈ tg.sl, i ∈ own) {σ : L2.St} {H : Hp} {Q : VK}
    (h : tE K (mvs ++ minus (tg.sl ++ mvc ++ mve) own) [] (fComp tg own fs fc fe) σ H Q) : tLc (tR K mvs vws fs) (gT K tg) (tT K mvc fc) (tE K mve [] fe) own σ H Q := by
  obtain ⟨F, s, fps, R, h⟩ := h
  refine ⟨F, s, fps, R, ?_⟩
  try dsimp only [fComp] at h
  cases e : fs s with
  | exc x s' => rw [e] at h; exact h
  | bad => rw [e] at h; exact h
  | ok xs s1 =>
    rw [e] at h
    simp only [bind_ok] at h
    by_cases hSL : SL < xs.length
    · rw [if_pos hSL] at h; exact h.elim
    rw [if_neg hSL] at h
    refine fun J pr H1 F1 fps1 R1 st1 it hp => fun Dd hDd => ?_
    have hFD : F1 Dd = none := by
      cases q : F1 Dd with
      | none => rfl
      | some o => rw [R1.sub _ _ q] at hDd; cases hDd
    have x0 := Ext.own (o := .lst []) R1.sub hDd
    have Rw0 := (R1.wiped own).ext x0
    refine ⟨fun i m H2 => m = xs.length - i ∧ i ≤ xs.length ∧ ∃ F2 s2 fps2 ys acc fq, Rel K F2 H2 (L2.wipe σ own) (Z.wipe s2 own) (wf own fps2) ∧ s2.length = s1.length ∧ Stp (minus (tg.sl ++ mvc ++ mve) own) F1 H1 (Z.wipe s1 own) (wf own fps1) F2 H2 (Z.wipe s2 own) (wf own fps2) ∧
      H2 Dd = some (.lst acc) ∧ F2 Dd = none ∧ (∀ j, Dd ∉ wf own fps2 j) ∧ Dd ∉ fq ∧ Reps K F2 H2 acc ys fq ∧ (∀ a ∈ fq, (∀ j, a ∉ wf own fps2 j) ∧ (H1 a = none ∨ ∃ j ∈ minus (tg.sl ++ mvc ++ mve) own, a ∈ wf own fps1 j)) ∧ ys.length ≤ i ∧
      match compL (fBody tg own fc fe) (xs.drop i) s2 with
      | .ok zs s3 => ∀ v H' F' fps' fp, Rel K F' H' σ (restore s1 s3 own) fps' → Stp (mvs ++ minus (tg.sl ++ mvc ++ mve) own) F H s fps F' H' (restore s1 s3 own) fps' → Res K (mvs ++ minus (tg.sl ++ mvc ++ mve) own) [] H fps F' H' fps' v (.lst true (ys ++ zs)) fp → Q v H'
      | _ => False, ⟨xs.length, by simp, Nat.zero_le _, F1, s1, fps1, [], [], [], Rw0, rfl, x0.stp, upd_same, hFD, fun j z => ?_, fun z => (nomatch z), .nil, fun a z => (nomatch z), Nat.le_refl _, ?_⟩, ?_⟩
    · by_cases hj : j ∈ own
      · rw [wf_in hj] at z; cases z
      · rw [wf_out hj] at z
        obtain ⟨_, o, ho, _⟩ := R1.there z
        rw [hDd] at ho; cases ho
    · rw [List.drop_zero]
      cases ec : compL (fBody tg own fc fe) xs s1 with
      | exc x s' => rw [ec] at h; exact h
      | bad => rw [ec] at h; exact h
      | ok zs s3 =>
        rw [ec] at h
        simp only [bind_ok] at h
        simpa using h
    rintro i m H2 ⟨rfl, hi, F2, s2, fps2, ys, acc, fq, R2, l2, st2, hacc, hFD2, hDf, hDq, ra, hfq, hyl, h2⟩
    have prot : ∀ a ∈ pr, ∀ o, H1 a = some o → H2 a = some o := fun a ha o e => by
      refine st2.h a o e fun j hj z => ?_
      obtain ⟨_, hjo⟩ := mem_minus.mp hj
      rw [wf_out hjo] at z
      rcases (hp a ha).2 with ⟨k, hk, q⟩ | q
      · exact R1.dis k j (fun e => disj_not hd hk (e ▸ hj)) a q z
      · exact q j z
    by_cases hlt : i < xs.length
    · have e1 : xs[i]? = some xs[i] := List.getElem?_eq_getElem hlt
      obtain ⟨hgo, hy⟩ := it.go i F2 H2 st2.f R2.sub prot _ e1
      rw [List.drop_eq_getElem_cons hlt] at h2
      unfold compL at h2
      refine .inr ⟨hgo, fun H3 => (i + 1 ≤ xs.length ∧ ∃ F3 s3 fps3 ys acc fq, Rel K F3 H3 (L2.wipe σ own) (Z.wipe s3 own) (wf own fps3) ∧ s3.length = s1.length ∧ Stp (minus (tg.sl ++ mvc ++ mve) own) F1 H1 (Z.wipe s1 own) (wf own fps1) F3 H3 (Z.wipe s3 own) (wf own fps3) ∧
        H3 Dd = some (.lst acc) ∧ F3 Dd = none ∧ (∀ j, Dd ∉ wf own fps3 j) ∧ Dd ∉ fq ∧ Reps K F3 H3 acc ys fq ∧ (∀ a ∈ fq, (∀ j, a ∉ wf own fps3 j) ∧ (H1 a = none ∨ ∃ j ∈ minus (tg.sl ++ mvc ++ mve) own, a ∈ wf own fps1 j)) ∧ ys.length ≤ i + 1 ∧
        match compL (fBody tg own fc fe) (xs.drop (i + 1)) s3 with
        | .ok zs s3 => ∀ v H' F' fps' fp, Rel K F' H' σ (restore s1 s3 own) fps' → Stp (mvs ++ minus (tg.sl ++ mvc ++ mve) own) F H s fps F' H' (restore s1 s3 own) fps' → Res K (mvs ++ minus (tg.sl ++ mvc ++ mve) own) [] H fps F' H' fps' v (.lst true (ys ++ zs)) fp → Q v H'
        | _ => False), fun H' hN => ⟨xs.length - (i + 1), by omega, rfl, hN⟩, fun x H3 y => ?_⟩
      obtain ⟨F3, x3, r3⟩ := hy x H3 y
      have R3 := R2.ext x3
      cases ea : assignT tg xs[i] (Z.wipe s2 own) with
      | none => rw [fBody_none ea] at h2; exact h2.elim
      | some s4 =>
        rw [fBody_some ea] at h2
        refine tgt (fp := []) R3 r3 (fun a ha => nomatch ha) ea fun σ' fps4 R4 k4 A => ?_
        have l4 : s4.length = s1.length := by rw [assignT_len ea, wipe_len, l2]
        have hσ : σ'.length = σ.length := by rw [← R4.len, l4, ← R1.len]
        refine ⟨wipe_kp k4 hσ ho, ?_⟩
        have st3 : Stp (minus (tg.sl ++ mvc ++ mve) own) F1 H1 (Z.wipe s1 own) (wf own fps1) F3 H3 (Z.wipe s2 own) (wf own fps2) := by
          have q := st2.trans (x3.stp (mv := []) (s := Z.wipe s2 own) (fps := wf own fps2))
          rw [List.append_nil] at q
          exact q
        have st4 : Stp (minus (tg.sl ++ mvc ++ mve) own ++ tg.sl) F1 H1 (Z.wipe s1 own) (wf own fps1) F3 H3 s4 fps4 := A.stp st3 fun a ha => nomatch ha
        -- the list so far stands through what follows
        have keepA : ∀ {mv : List Nat} {F5 H5 : Hp} {s5 : Env} {fps5 : Fps}, Stp mv F3 H3 s4 fps4 F5 H5 s5 fps5 → Rel K F5 H5 σ' s5 fps5 → H5 Dd = some (.lst acc) ∧ F5 Dd = none ∧ (∀ j, Dd ∉ fps5 j) ∧ Reps K F5 H5 acc ys fq ∧ (∀ a ∈ fq, (∀ j, a ∉ fps5 j)) := by
          intro mv F5 H5 s5 fps5 st5 R5
          have out : ∀ a : Addr, (∀ j, a ∉ wf own fps2 j) → ∀ j, a ∉ fps4 j := fun a ha j z => by
            by_cases hj : j ∈ tg.sl
            · rcases A.i j hj a z with q | q
              · cases q
              · exact ha j q
            · rw [(A.o j hj).2] at z
              exact ha j z
          have out5 : ∀ (a : Addr) (o : HO), H3 a = some o → (∀ j, a ∉ fps4 j) → ∀ j, a ∉ fps5 j := fun a o ho ha j z => by
            rcases st5.back z with q | ⟨k, _, q⟩ | ⟨_, q⟩
            · rw [ho] at q; cases q
            · exact ha k q
            · exact ha j q
          have hD3 := x3.h _ _ hacc
          have d4 := out Dd hDf
          have hD5 := st5.h _ _ hD3 fun j _ => d4 j
          have f5 : ∀ (a : Addr) (o : HO), H3 a = some o → F3 a = none → (∀ j, a ∉ fps4 j) → F5 a = none := fun a o ho hf ha => by
            cases q : F5 a with
            | none => rfl
            | some u =>
              rcases st5.nf a (by rw [q]; exact Option.some_ne_none _) with w | w | ⟨j, _, w⟩
              · exact absurd hf w
              · rw [ho] at w; cases w
              · exact absurd w (ha j)
          have hF3D : F3 Dd = none := (x3.keep ⟨hFD2, _, hacc, trivial⟩).2
          have ra3 := ra.ext x3
          refine ⟨hD5, f5 Dd _ hD3 hF3D d4, out5 Dd _ hD3 d4, ra3.mono st5.f fun a ha => ?_, fun a ha => ?_⟩
          · obtain ⟨q1, o, q2, _⟩ := ra3.own a ha
            have q3 := out a (hfq a ha).1
            exact ⟨fun o e => st5.h a o e fun j _ => q3 j, f5 a o q2 q1 q3⟩
          · obtain ⟨q1, o, q2, _⟩ := ra3.own a ha
            exact out5 a o q2 (out a (hfq a ha).1)
        have toI : ∀ {mv : List Nat} {F5 H5 : Hp} {s5 : Env} {fps5 : Fps}, (∀ j ∈ mv, j ∈ mvc ++ mve) → Stp mv F3 H3 s4 fps4 F5 H5 s5 fps5 → Stp (minus (tg.sl ++ mvc ++ mve) own) F1 H1 (Z.wipe s1 own) (wf own fps1) F5 H5 (Z.wipe s5 own) (wf own fps5) := by
          intro mv F5 H5 s5 fps5 hm st5
          refine ((st4.trans st5).wiped).weak fun j hj => ?_
          obtain ⟨q1, q2⟩ := mem_minus.mp hj
          refine mem_minus.mpr ⟨?_, q2⟩
          rcases List.mem_append.mp q1 with q | q
          · rcases List.mem_append.mp q with q | q
            · exact (mem_minus.mp q).1
            · exact List.mem_append_left _ (List.mem_append_left _ q)
          · rcases List.mem_append.mp (hm j q) with q | q
            · exact List.mem_append_left _ (List.mem_append_right _ q)
            · exact List.mem_append_right _ q
        have wout : ∀ {a : Addr} {fps5 : Fps}, (∀ j, a ∉ fps5 j) → ∀ j, a ∉ wf own fps5 j := fun {a fps5} ha j z => by
          by_cases hj : j ∈ own
          · rw [wf_in hj] at z; cases z
          · rw [wf_out hj] at z; exact ha j z
        have wk : ∀ {τ : L2.St}, L2.wipe σ' own = L2.wipe σ own := wipe_kp k4 hσ ho
        refine ⟨F3, s4, fps4, R4, ?_⟩
        cases ec : fc s4 with
        | exc x s' => rw [ec] at h2; exact h2.elim
        | bad => rw [ec] at h2; exact h2.elim
        | ok db s5 =>
          rw [ec] at h2
          simp only [bind_ok] at h2
          try dsimp only
          cases eb : asB db with
          | none => rw [eb] at h2; exact h2.elim
          | some b =>
            rw [eb] at h2
            try dsimp only
            refine fun H5 F5 fps5 R5 st5 => ?_
            have l5 : s5.length = s1.length := by rw [R5.len, hσ, R1.len]
            cases b with
            | false =>
              simp only [bind_ok, Option.toList_none, List.nil_append] at h2
              obtain ⟨k1, k2, k3, k5, k6⟩ := keepA st5 R5
              show i + 1 ≤ xs.length ∧ _
              refine ⟨hlt, F5, s5, fps5, ys, acc, fq, ?_, l5, toI (fun j hj => List.mem_append_left _ hj) st5, k1, k2, wout k3, hDq, k5, fun a ha => ⟨wout (k6 a ha), (hfq a ha).2⟩, by omega, ?_⟩
              · have q := R5.wiped own
                rw [wk (τ := σ)] at q
                exact q
              · cases ec2 : compL (fBody tg own fc fe) (xs.drop (i + 1)) s5 with
                | exc x s' => rw [ec2] at h2; exact h2.elim
                | bad => rw [ec2] at h2; exact h2.elim
                | ok zs s7 =>
                  rw [ec2] at h2
                  exact h2
            | true =>
              try dsimp only at h2
              show tE K mve [] fe σ' H5 _
              refine ⟨F5, s5, fps5, R5, ?_⟩
              cases ee : fe s5 with
              | exc x s' => rw [ee] at h2; exact h2.elim
              | bad => rw [ee] at h2; exact h2.elim
              | ok dy s6 =>
                rw [ee] at h2
                simp only [bind_ok, Option.toList_some] at h2
                refine fun yv H6 F6 fps6 fp6 R6 st6 rs6 => ?_
                have st56 := st5.trans st6
                obtain ⟨k1, k2, k3, k5, k6⟩ := keepA st56 R6
                have hal : acc.length = ys.length := k5.len
                refine ⟨acc, k1, by rw [sl_eq]; omega, ?_⟩
                have l6 : s6.length = s1.length := by rw [R6.len, hσ, R1.len]
                have frs : ∀ a ∈ fp6, (∀ j, a ∉ fps6 j) ∧ (H5 a = none ∨ ∃ j ∈ mve, a ∈ fps5 j) := fun a ha => by
                  rcases rs6.fr a ha with ⟨j, hj, _⟩ | q
                  · cases hj
                  · exact q
                have hDp : Dd ∉ fp6 := fun z => by
                  obtain ⟨k1', _, k3', _⟩ := keepA st5 R5
                  rcases (frs Dd z).2 with q | ⟨j, _, q⟩
                  · rw [k1'] at q; cases q
                  · exact k3' j q
                have hpq : ∀ a ∈ fq, a ∉ fp6 := fun a ha z => by
                  obtain ⟨_, _, _, k5', k6'⟩ := keepA st5 R5
                  rcases (frs a z).2 with q | ⟨j, _, q⟩
                  · obtain ⟨_, o, q2, _⟩ := k5'.own a ha
                    rw [q2] at q; cases q
                  · exact k6' a ha j q
                -- the item is appended
                have hu : ∀ b : Addr, b ≠ Dd → ∀ o, H6 b = some o → (upd H6 Dd (.lst (acc ++ [yv]))) b = some o := fun b hb o e => by rw [upd_ne hb]; exact e
                have R7 : Rel K F6 (upd H6 Dd (.lst (acc ++ [yv]))) σ' s6 fps6 := ⟨fun a o e => hu a (fun z => by rw [z, k2] at e; cases e) o (R6.sub a o e), R6.len, fun j d e => by
                  obtain ⟨w, w1, w2⟩ := R6.rep j d e
                  exact ⟨w, w1, w2.mono (fun _ _ e => e) fun a ha => ⟨hu a fun z => k3 j (z ▸ ha), (w2.own a ha).1⟩⟩, R6.nil, R6.dis⟩
                have st7 : Stp (mvc ++ mve) F3 H3 s4 fps4 F6 (upd H6 Dd (.lst (acc ++ [yv]))) s6 fps6 → False → True := fun _ _ => trivial
                have stI := toI (fun j hj => hj) st56
                have stI7 : Stp (minus (tg.sl ++ mvc ++ mve) own) F1 H1 (Z.wipe s1 own) (wf own fps1) F6 (upd H6 Dd (.lst (acc ++ [yv]))) (Z.wipe s6 own) (wf own fps6) := ⟨stI.f, fun a o e k => hu a (fun z => by rw [z, hDd] at e; cases e) o (stI.h a o e k), stI.nf, stI.u, stI.o, fun a e => by
                  by_cases hb : a = Dd
                  · subst hb; rw [upd_same] at e; cases e
                  · rw [upd_ne hb] at e; exact stI.d a e⟩
                show i + 1 ≤ xs.length ∧ _
                refine ⟨hlt, F6, s6, fps6, ys ++ [dy], acc ++ [yv], fq ++ fp6, ?_, l6, stI7, upd_same, k2, wout k3, fun z => ?_, ?_, fun a ha => ?_, by rw [List.length_append, List.length_singleton]; omega, ?_⟩
                · have q := R7.wiped own
                  rw [wk (τ := σ)] at q
                  exact q
                · rcases List.mem_append.mp z with z | z
                  · exact hDq z
                  · exact hDp z
                · have q1 : Reps K F6 (upd H6 Dd (.lst (acc ++ [yv]))) acc ys fq := k5.mono (fun _ _ e => e) fun a ha => ⟨hu a fun z => hDq (z ▸ ha), (k5.own a ha).1⟩
                  have q2 : Rep K F6 (upd H6 Dd (.lst (acc ++ [yv]))) yv dy fp6 := rs6.rep.mono (fun _ _ e => e) fun a ha => ⟨hu a fun z => hDp (z ▸ ha), (rs6.rep.own a ha).1⟩
                  have q3 : Reps K F6 (upd H6 Dd (.lst (acc ++ [yv]))) [yv] [dy] fp6 := by
                    have := Reps.cons (fq := []) q2 .nil fun a _ z => nomatch z
                    rwa [List.append_nil] at this
                  exact q1.app q3 hpq
                · rcases List.mem_append.mp ha with z | z
                  · exact ⟨wout (k6 a z), (hfq a z).2⟩
                  · refine ⟨wout (frs a z).1, ?_⟩
                    have none1 : ∀ b : Addr, H5 b = none → H1 b = none := fun b e => (st4.trans st5).d b e
                    rcases (frs a z).2 with q | ⟨j, hj, q⟩
                    · exact .inl (none1 a q)
                    · rcases (st4.trans st5).back q with w | ⟨k, hk, w⟩ | ⟨hn, w⟩
                      · exact .inl w
                      · refine .inr ?_
                        by_cases hko : k ∈ own
                        · rw [wf_in hko] at w; cases w
                        · refine ⟨k, mem_minus.mpr ⟨?_, hko⟩, w⟩
                          rcases List.mem_append.mp hk with hk | hk
                          · rcases List.mem_append.mp hk with hk | hk
                            · exact (mem_minus.mp hk).1
                            · exact List.mem_append_left _ (List.mem_append_left _ hk)
                          · exact List.mem_append_left _ (List.mem_append_right _ hk)
                      · refine .inr ?_
                        by_cases hko : j ∈ own
                        · rw [wf_in hko] at w; cases w
                        · exact ⟨j, mem_minus.mpr ⟨List.mem_append_right _ hj, hko⟩, w⟩
                · cases ec2 : compL (fBody tg own fc fe) (xs.drop (i + 1)) s6 with
                  | exc x s' => rw [ec2] at h2; exact h2.elim
                  | bad => rw [ec2] at h2; exact h2.elim
                  | ok zs s7 =>
                    rw [ec2] at h2
                    simpa using h2
    · have : i = xs.length := by omega
      subst this
      refine .inl ⟨it.stop _ F2 H2 st2.f R2.sub prot (Nat.le_refl _), ?_⟩
      rw [List.drop_length] at h2
      unfold compL at h2
      try dsimp only at h2
      rw [List.append_nil] at h2
      have ll : s1.length = s2.length := l2.symm
      have old : ∀ (j : Nat), j ∈ own → ∀ a ∈ fps1 j, (∀ o, H1 a = some o → H2 a = some o) ∧ F2 a = none ∧ ∀ k, a ∉ wf own fps2 k := fun j hj a ha => by
        have nin : ∀ k, a ∉ wf own fps1 k := fun k z => by
          by_cases hk : k ∈ own
          · rw [wf_in hk] at z; cases z
          · rw [wf_out hk] at z
            exact R1.dis j k (fun e => hk (e ▸ hj)) a ha z
        obtain ⟨q1, o, q2, _⟩ := R1.there ha
        refine ⟨fun o e => st2.h a o e fun k _ => nin k, ?_, fun k z => ?_⟩
        · cases q : F2 a with
          | none => rfl
          | some u =>
            rcases st2.nf a (by rw [q]; exact Option.some_ne_none _) with w | w | ⟨k, _, w⟩
            · exact absurd q1 w
            · rw [q2] at w; cases w
            · exact absurd w (nin k)
        · rcases st2.back z with w | ⟨k', _, w⟩ | ⟨_, w⟩
          · rw [q2] at w; cases w
          · exact nin k' w
          · exact nin k w
      refine h2 (.ref Dd) H2 F2 (fun j => if j ∈ own then fps1 j else wf own fps2 j) (Dd :: fq) ⟨R2.sub, ?_, fun j d e => ?_, fun j e => ?_, fun j k hjk a ha => ?_⟩ ⟨fun a o e => st2.f a o (st1.f a o e), fun a o e k => ?_, fun a e => ?_, fun j hj a ha => ?_, fun j hj => ?_, fun a e => st1.d a (st2.d a e)⟩ ⟨.lstO hacc hFD2 ra hDq, fun a ha => .inr ?_⟩
      · rw [restore_len, ← ll]; exact R1.len
      · rw [get_restore ll] at e
        by_cases hj : j ∈ own
        · rw [if_pos hj] at e
          obtain ⟨v, w1, w2⟩ := R1.rep j d e
          refine ⟨v, w1, ?_⟩
          simp only [if_pos hj]
          exact w2.mono st2.f fun a ha => ⟨(old j hj a ha).1, (old j hj a ha).2.1⟩
        · rw [if_neg hj] at e
          obtain ⟨v, w1, w2⟩ := R2.rep j d (by rw [get_wipe, if_neg hj]; exact e)
          rw [L2.wipe_out hj] at w1
          refine ⟨v, w1, ?_⟩
          simp only [if_neg hj]
          exact w2
      · rw [get_restore ll] at e
        by_cases hj : j ∈ own
        · rw [if_pos hj] at e
          simp only [if_pos hj]
          exact R1.nil j e
        · rw [if_neg hj] at e
          simp only [if_neg hj]
          exact R2.nil j (by rw [get_wipe, if_neg hj]; exact e)
      · by_cases hj : j ∈ own
        · simp only [if_pos hj] at ha
          by_cases hk : k ∈ own
          · simp only [if_pos hk]; exact R1.dis j k hjk a ha
          · simp only [if_neg hk]; exact (old j hj a ha).2.2 k
        · simp only [if_neg hj] at ha
          by_cases hk : k ∈ own
          · simp only [if_pos hk]; exact fun z => (old k hk a z).2.2 j ha
          · simp only [if_neg hk]; exact R2.dis j k hjk a ha
      · refine st2.h a o (st1.h a o e fun j hj => k j (List.mem_append_left _ hj)) fun j hj z => ?_
        obtain ⟨_, hjo⟩ := mem_minus.mp hj
        rw [wf_out hjo] at z
        rcases st1.back z with w | ⟨i', hi', w⟩ | ⟨_, w⟩
        · rw [e] at w; cases w
        · exact k i' (List.mem_append_left _ hi') w
        · exact k j (List.mem_append_right _ hj) w
      · rcases st2.nf a e with q | q | ⟨j, hj, q⟩
        · rcases st1.nf a q with q | q | ⟨j, hj, q⟩
          · exact .inl q
          · exact .inr (.inl q)
          · exact .inr (.inr ⟨j, List.mem_append_left _ hj, q⟩)
        · exact .inr (.inl (st1.d a q))
        · obtain ⟨_, hjo⟩ := mem_minus.mp hj
          rw [wf_out hjo] at q
          rcases st1.back q with w | ⟨i', hi', w⟩ | ⟨_, w⟩
          · exact .inr (.inl w)
          · exact .inr (.inr ⟨i', List.mem_append_left _ hi', w⟩)
          · exact .inr (.inr ⟨j, List.mem_append_right _ hj, w⟩)
      · have base : ∀ k, a ∈ fps1 k → k ∈ mvs ++ minus (tg.sl ++ mvc ++ mve) own → H a = none ∨ ∃ i ∈ mvs ++ minus (tg.sl ++ mvc ++ mve) own, a ∈ fps i := fun k z hk => by
          rcases st1.back z with w | ⟨i', hi', w⟩ | ⟨_, w⟩
          · exact .inl w
          · exact .inr ⟨i', List.mem_append_left _ hi', w⟩
          · exact .inr ⟨k, hk, w⟩
        by_cases hjo : j ∈ own
        · simp only [if_pos hjo] at ha
          exact base j ha hj
        · simp only [if_neg hjo] at ha
          rcases st2.back ha with w | ⟨k, hk, w⟩ | ⟨_, w⟩
          · exact .inl (st1.d a w)
          · obtain ⟨_, hko⟩ := mem_minus.mp hk
            rw [wf_out hko] at w
            exact base k w (List.mem_append_right _ hk)
          · rw [wf_out hjo] at w
            exact base j w hj
      · have q1 := st1.o j fun z => hj (List.mem_append_left _ z)
        rw [get_restore ll]
        by_cases hjo : j ∈ own
        · simp only [if_pos hjo]
          exact q1
        · simp only [if_neg hjo]
          have q2 := st2.o j fun z => hj (List.mem_append_right _ z)
          rw [get_wipe, get_wipe, if_neg hjo, if_neg hjo] at q2
          refine ⟨q2.1.trans q1.1, ?_⟩
          rw [q2.2, wf_out hjo]
          exact q1.2
      · have tail : ∀ a, H1 a = none ∨ (∃ j ∈ minus (tg.sl ++ mvc ++ mve) own, a ∈ wf own fps1 j) → H a = none ∨ ∃ j ∈ mvs ++ minus (tg.sl ++ mvc ++ mve) own, a ∈ fps j := fun a q => by
          rcases q with q | ⟨j, hj, q⟩
          · exact .inl (st1.d a q)
          · obtain ⟨_, hjo⟩ := mem_minus.mp hj
            rw [wf_out hjo] at q
            rcases st1.back q with w | ⟨i', hi', w⟩ | ⟨_, w⟩
            · exact .inl w
            · exact .inr ⟨i', List.mem_append_left _ hi', w⟩
            · exact .inr ⟨j, List.mem_append_right _ hj, w⟩
        rcases List.mem_cons.mp ha with z | z
        · subst z
          refine ⟨fun j z => ?_, tail a (.inl hDd)⟩
          by_cases hjo : j ∈ own
          · simp only [if_pos hjo] at z
            obtain ⟨_, o, q2, _⟩ := R1.there z
            rw [hDd] at q2; cases q2
          · simp only [if_neg hjo] at z
            exact hDf j z
        · refine ⟨fun j w => ?_, tail a (hfq a z).2⟩
          by_cases hjo : j ∈ own
          · simp only [if_pos hjo] at w
            rcases (hfq a z).2 with q | ⟨k, hk, q⟩
            · obtain ⟨_, o, q2, _⟩ := R1.there w
              rw [q] at q2; cases q2
            · obtain ⟨_, hko⟩ := mem_minus.mp hk
              rw [wf_out hko] at q
              exact R1.dis j k (fun e => hko (e ▸ hjo)) a w q
          · simp only [if_neg hjo] at w
            exact (hfq a z).1 j w
end Z

set_option Elab.async false
set_option linter.all false
set_option maxRecDepth 100000
namespace Z
open PySem PySem.Spec PyProof.Rows L2

section
variable {X : Cx} {p pos : Pos}
/-- a view of a slot is frozen, is moved -/
theorem se_frv {e : Expr} {i : Nat} (h : PE X e (tE X.K [] [i] fun s => R.of (get s i) s)) : PE X e (tE X.K [i] [] fun s => match get s i with | some d => .ok d.frz (s.set i (some d.frz)) | none => .bad) := pe_imp h fun σ H Q h => by
  obtain ⟨F, s, fps, R, h⟩ := h
  refine ⟨F, s, fps, R, ?_⟩
  try dsimp only at h ⊢
  cases e : get s i with
  | none => rw [e] at h; exact h
  | some d =>
    rw [e] at h
    simp only [of_some]
    refine fun v H' F' fps' fp R' st' rs => ?_
    obtain ⟨R2, st2⟩ := R'.frzd e
    have st := (st'.trans st2).weak (mv2 := [i]) fun j hj => by simpa using hj
    have key : ∀ a ∈ fp, a ∈ fps' i ∨ ((∀ j, a ∉ fps' j) ∧ H a = none) := fun a ha => by
      rcases rs.fr a ha with ⟨j, hj, q⟩ | ⟨q, w⟩
      · have : j = i := List.mem_singleton.mp hj
        subst this
        exact .inl q
      · rcases w with w | ⟨j, hj, _⟩
        · exact .inr ⟨q, w⟩
        · cases hj
    have new : ∀ a ∈ fp.filter (fun a => decide (a ∉ fps' i)), (∀ j, a ∉ fps' j) ∧ H a = none := fun a ha => by
      obtain ⟨h1, h2⟩ := List.mem_filter.mp ha
      rcases key a h1 with q | q
      · exact absurd q (of_decide_eq_true h2)
      · exact q
    have R3 := R2.frzt (fp := fp.filter (fun a => decide (a ∉ fps' i))) fun a ha j z => by
      by_cases hj : j = i
      · simp [hj] at z
      · simp only [if_neg hj] at z
        exact (new a ha).1 j z
    have st3 := st.frzt (fp := fp.filter (fun a => decide (a ∉ fps' i))) R2.sub fun a ha => .inl (new a ha).2
    refine h v H' _ _ [] R3 st3 ⟨rs.rep.frz (fun a o e => fzH_f R2.sub a o (fzH_f R'.sub a o e)) fun a ha o e => ?_, fun a ha => nomatch ha⟩
    by_cases hi : a ∈ fps' i
    · exact fzH_f R2.sub a o (by rw [fzH_in hi]; exact e)
    · rw [fzH_in (List.mem_filter.mpr ⟨ha, decide_eq_true hi⟩)]; exact e
theorem se_movv {e : Expr} {i : Nat} (h : PE X e (tE X.K [] [i] fun s => R.of (get s i) s)) : PE X e (tE X.K [i] [] fun s => match get s i with | some d => .ok d (s.set i none) | none => .bad) := pe_imp h fun σ H Q h => by
  obtain ⟨F, s, fps, R, h⟩ := h
  refine ⟨F, s, fps, R, ?_⟩
  try dsimp only at h ⊢
  cases e : get s i with
  | none => rw [e] at h; exact h
  | some d =>
    rw [e] at h
    simp only [of_some]
    refine fun v H' F' fps' fp R' st' rs => ?_
    obtain ⟨R2, st2⟩ := R'.moved (get_lt e)
    have st := (st'.trans st2).weak (mv2 := [i]) fun j hj => by simpa using hj
    refine h v H' _ _ fp R2 st ⟨rs.rep, fun a ha => .inr ?_⟩
    rcases rs.fr a ha with ⟨j, hj, q⟩ | ⟨q, w⟩
    · have : j = i := List.mem_singleton.mp hj
      subst this
      refine ⟨fun k z => ?_, ?_⟩
      · by_cases hk : k = j
        · simp [hk] at z
        · simp only [if_neg hk] at z
          exact R'.dis j k (fun q => hk q.symm) a q z
      · have q2 := (st'.o j (by simp)).2
        rw [q2] at q
        exact .inr ⟨j, List.mem_singleton.mpr rfl, q⟩
    · refine ⟨fun k z => ?_, ?_⟩
      · by_cases hk : k = i
        · simp [hk] at z
        · simp only [if_neg hk] at z
          exact q k z
      · rcases w with w | ⟨j, hj, _⟩
        · exact .inl w
        · cases hj

/-! ### calls of built-ins -/
theorem tE_r1 {K : PySem.W.Frag} {g : D → Option D} {mv vw : List Nat} {f : Env → R D} {σ : L2.St} {H : Hp} {Q : VK} (h : tE K mv [] (fun s => (f s).bind fun x s => R.of (g x) s) σ H Q) : tCB (r1 (rU K g false)) (tCons (tE K mv vw f) tNil) σ H Q := by
  have q : tUn (rU K g false) (tE K mv vw f) σ H Q := tE_un (vf := false) h
  obtain ⟨F, s, fps, R, q⟩ := q
  refine ⟨F, s, fps, R, ?_⟩
  cases e : f s with
  | exc x s' => rw [e] at q; exact q
  | bad => rw [e] at q; exact q
  | ok d s' =>
    rw [e] at q
    exact fun v H' F' fps' fp R' st rs => ⟨v, rfl, q v H' F' fps' fp R' st rs⟩
theorem tE_r2 {K : PySem.W.Frag} {g : D → D → Option D} {k : Bool} {mva vwa mvb vwb : List Nat} {fa fb : Env → R D} {σ : L2.St} {H : Hp} {Q : VK} (hk : k = true ∨ disj vwa mvb = true)
    (h : tE K (mva ++ mvb) [] (fun s => (fa s).bind fun x s => (fb s).bind fun y s => if k && x.own then .bad else R.of (g x y) s) σ H Q) : tCB (r2 (rO K g false)) (tCons (tE K mva vwa fa) (tCons (tE K mvb vwb fb) tNil)) σ H Q := by
  have q : tOp (rO K g false) (tE K mva vwa fa) (tE K mvb vwb fb) σ H Q := tE_two (vf := false) hk h
  obtain ⟨F, s, fps, R, q⟩ := q
  refine ⟨F, s, fps, R, ?_⟩
  cases e : fa s with
  | exc x s' => rw [e] at q; exact q
  | bad => rw [e] at q; exact q
  | ok d s' =>
    rw [e] at q
    refine fun v H' F' fps' fp R' st rs => ?_
    obtain ⟨F2, s2, fps2, R2, q2⟩ := q v H' F' fps' fp R' st rs
    refine ⟨F2, s2, fps2, R2, ?_⟩
    cases e2 : fb s2 with
    | exc x s' => rw [e2] at q2; exact q2
    | bad => rw [e2] at q2; exact q2
    | ok d2 s3 =>
      rw [e2] at q2
      exact fun w H3 F3 fps3 fp3 R3 st3 rs3 => ⟨v, w, rfl, q2 w H3 F3 fps3 fp3 R3 st3 rs3⟩
theorem sb_fn {x : Str} {id : String} {u : U1} {e : Expr} {mv vw : List Nat} {f : Env → R D} (hc : CallR X (.builtin id) (r1 (rU X.K (un1 u) false))) (hg : Gl X x) (hm : X.mg x = none) (hv : bootBuiltins x = some (.builtin id)) (h : PE X e (tE X.K mv vw f)) (hs : starEach [e] X.env = [(false, eval e X.env)])
    (hn : x ≠ "__name__" := by decide) (hdb : (x == ("__debug__" : Str)) = false := by decide) : PE X (.Call (.Name x p) [e] [] pos) (tE X.K mv [] fun s => (f s).bind fun x s => R.of (un1 u x) s) :=
  pe_imp (pe_callB hc hg hm hv (sa_1 h hs) hn hdb hs rfl) fun σ H Q h => tE_r1 h
theorem sb_ty {x : Str} {T : String} {u : U1} {e : Expr} {mv vw : List Nat} {f : Env → R D} (hc : CallR X (.type T) (r1 (rU X.K (un1 u) false))) (hg : Gl X x) (hm : X.mg x = none) (hv : bootBuiltins x = some (.type T)) (h : PE X e (tE X.K mv vw f)) (hs : starEach [e] X.env = [(false, eval e X.env)])
    (hn : x ≠ "__name__" := by decide) (hdb : (x == ("__debug__" : Str)) = false := by decide) : PE X (.Call (.Name x p) [e] [] pos) (tE X.K mv [] fun s => (f s).bind fun x s => R.of (un1 u x) s) :=
  pe_imp (pe_callTy hc hg hm hv (sa_1 h hs) hn hdb hs rfl) fun σ H Q h => tE_r1 h
theorem sa_2 {a b : Expr} {ta tb : TE} (ha : PE X a ta) (hb : PE X b tb) (hs : starEach [a, b] X.env = (false, eval a X.env) :: starEach [b] X.env) (hs2 : starEach [b] X.env = [(false, eval b X.env)]) : PA X [a, b] (tCons ta (tCons tb tNil)) := pa_cons ha (pa_cons hb pa_nil hs2) hs
theorem sb_fn2 {x : Str} {id : String} {o : O2} {k : Bool} {a b : Expr} {mva vwa mvb vwb : List Nat} {fa fb : Env → R D} (hc : CallR X (.builtin id) (r2 (rO X.K (op2 o) false))) (hg : Gl X x) (hm : X.mg x = none) (hv : bootBuiltins x = some (.builtin id))
    (hk : k = true ∨ disj vwa mvb = true) (ha : PE X a (tE X.K mva vwa fa)) (hb : PE X b (tE X.K mvb vwb fb)) (hs : starEach [a, b] X.env = (false, eval a X.env) :: starEach [b] X.env) (hs2 : starEach [b] X.env = [(false, eval b X.env)])
    (hn : x ≠ "__name__" := by decide) (hdb : (x == ("__debug__" : Str)) = false := by decide) : PE X (.Call (.Name x p) [a, b] [] pos) (tE X.K (mva ++ mvb) [] fun s => (fa s).bind fun x s => (fb s).bind fun y s => if k && x.own then .bad else R.of (op2 o x y) s) :=
  pe_imp (pe_callB hc hg hm hv (sa_2 ha hb hs hs2) hn hdb hs (by rw [hs2]; rfl)) fun σ H Q h => tE_r2 hk h
/-! ### isinstance -/
def tyName : D → String
  | .non => "NoneType"
  | .bl _ => "bool"
  | .int _ => "int"
  | .str _ => "str"
  | .tup _ => "tuple"
  | .lst _ _ => "list"
  | .dct _ _ => "dict"
  | .set _ _ => "set"
  | .ins _ _ _ => "object"
theorem rep_ty {K : PySem.W.Frag} {F H : Hp} {v : V} {d : D} {fp : List Addr} (m : ∀ a o, F a = some o → H a = some o) (r : Rep K F H v d fp) : TyX K H v (.type (tyName d)) := by
  cases r with
  | non => exact .base .non
  | bl b => exact .base (.bl b)
  | int i => exact .base (.int i)
  | str s h => exact .base (.str _)
  | tup h hs =>
    rcases h with (h | ⟨o, h⟩) | ⟨o, its, n, h1, h2, _⟩
    · exact .base (.tup (m _ _ h))
    · exact .fTuple (m _ _ h)
    · exact .kTuple h1 h2
  | lstF h hs =>
    rcases h with (h | ⟨o, h⟩) | ⟨o, its, n, h1, h2, _⟩
    · exact .base (.lst (m _ _ h))
    · exact .base (.frz (m _ _ h))
    · exact .kList h1 h2
  | lstO h hf hs hn => exact .base (.lst h)
def isU : String → Option U1
  | "str" => some .isStr
  | "tuple" => some .isTup
  | "list" => some .isLst
  | "bool" => some .isBool
  | "int" => some .isInt
  | _ => none
theorem kit_all {T : String} {u : U1} (h : isU T = some u) {K : PySem.W.Frag} {F H : Hp} {v : V} {d : D} {fp : List Addr} (r : Rep K F H v d fp) : ∃ b, kitB (tyName d) T = some b ∧ un1 u d = some (.bl b) := by
  unfold isU at h
  split at h <;> cases h <;> cases r <;> first
    | exact ⟨true, by dsimp only [tyName]; decide +kernel, rfl⟩
    | exact ⟨false, by dsimp only [tyName]; decide +kernel, rfl⟩
theorem cu_isi {T : String} {u : U1} (h : isU T = some u) : CallR X (.builtin "isinstance") (fun xs H Q => ∃ x, xs = [x, .ty T] ∧ rU X.K (un1 u) false x H Q) := by
  intro pins s σ H xs us Q I rs hq
  obtain ⟨x, rfl, F, d1, fp1, d, m, r1, e, q⟩ := hq
  obtain ⟨b, hb, hu⟩ := kit_all h r1
  rw [hu] at e
  cases e
  exact call_isi pins s σ H _ us Q I rs ⟨x, .ty T, _, _, b, rfl, .ty T, rep_ty m r1, kit_ty hb, give_bl m q⟩
theorem sb_isi {x y : Str} {T : String} {u : U1} {e : Expr} {p2 : Pos} {mv vw : List Nat} {f : Env → R D} (hu : isU T = some u) (hx : x = "isinstance") (hg : Gl X x) (hm : X.mg x = none) (hgy : Gl X y) (hmy : X.mg y = none) (hvy : bootBuiltins y = some (.type T)) (hny : y ≠ "__name__")
    (hdy : (y == ("__debug__" : Str)) = false) (h : PE X e (tE X.K mv vw f)) (hs : starEach [e, .Name y p2] X.env = (false, eval e X.env) :: starEach [.Name y p2] X.env) :
    PE X (.Call (.Name x p) [e, .Name y p2] [] pos) (tE X.K mv [] fun s => (f s).bind fun x s => R.of (un1 u x) s) := by
  subst hx
  refine pe_imp (pe_callB (cu_isi hu) hg hm PyProof.Rows.boot_isinstance (sa_2 h (pe_bltn (v := .ty T) hgy hmy hvy rfl hny hdy) hs rfl) (by decide) (by decide) hs rfl) fun σ H Q h => ?_
  have q : tUn (rU X.K (un1 u) false) (tE X.K mv vw f) σ H Q := tE_un (vf := false) h
  obtain ⟨F, s, fps, R, q⟩ := q
  refine ⟨F, s, fps, R, ?_⟩
  cases e : f s with
  | exc x s' => rw [e] at q; exact q
  | bad => rw [e] at q; exact q
  | ok d s' =>
    rw [e] at q
    exact fun v H' F' fps' fp R' st rs => ⟨v, rfl, q v H' F' fps' fp R' st rs⟩
/-! ### x is None -/
theorem se_isN {a : Expr} {j : Nat} {p2 : Pos} {mv vw : List Nat} {f : Env → R D} (h : PE X a (tE X.K mv vw f)) : PC X .Is a (.Constant .none j p2) (tE X.K mv [] fun s => (f s).bind fun x s => R.of (un1 .isNone x) s) := by
  have key := pc_isN (j := j) (pos' := p2) h
  refine ⟨fun pins s σ H Q I q => key.run pins s σ H Q I ?_⟩
  have q : tUn (rU X.K (un1 .isNone) false) (tE X.K mv vw f) σ H Q := tE_un (vf := false) q
  obtain ⟨F, s, fps, R, q⟩ := q
  refine ⟨F, s, fps, R, ?_⟩
  cases e : f s with
  | exc x s' => rw [e] at q; exact q
  | bad => rw [e] at q; exact q
  | ok d s' =>
    rw [e] at q
    refine fun v H' F' fps' fp R' st rs => ?_
    obtain ⟨F2, d2, fp2, d3, m, r, e2, g⟩ := q v H' F' fps' fp R' st rs
    cases r <;> (simp only [un1, Option.some.injEq] at e2; subst e2; exact give_bl m g)
theorem se_notN {a : Expr} {j : Nat} {p2 : Pos} {mv vw : List Nat} {f : Env → R D} (h : PE X a (tE X.K mv vw f)) : PC X .IsNot a (.Constant .none j p2) (tE X.K mv [] fun s => (f s).bind fun x s => R.of (un1 .notNone x) s) := by
  have key := pc_notN (j := j) (pos' := p2) h
  refine ⟨fun pins s σ H Q I q => key.run pins s σ H Q I ?_⟩
  have q : tUn (rU X.K (un1 .notNone) false) (tE X.K mv vw f) σ H Q := tE_un (vf := false) q
  obtain ⟨F, s, fps, R, q⟩ := q
  refine ⟨F, s, fps, R, ?_⟩
  cases e : f s with
  | exc x s' => rw [e] at q; exact q
  | bad => rw [e] at q; exact q
  | ok d s' =>
    rw [e] at q
    refine fun v H' F' fps' fp R' st rs => ?_
    obtain ⟨F2, d2, fp2, d3, m, r, e2, g⟩ := q v H' F' fps' fp R' st rs
    cases r <;> (simp only [un1, Option.some.injEq] at e2; subst e2; exact give_bl m g)
/-! ### methods of texts -/
theorem tE_m1 {K : PySem.W.Frag} {g : D → D → Option D} (hstr : ∀ x y d, g x y = some d → ∃ z, x = .str z) {k : Bool} {mva vwa mvb vwb : List Nat} {fa fb : Env → R D} {σ : L2.St} {H : Hp} {Q : VK} (hk : k = true ∨ disj vwa mvb = true)
    (h : tE K (mva ++ mvb) [] (fun s => (fa s).bind fun x s => (fb s).bind fun y s => if k && x.own then .bad else R.of (g x y) s) σ H Q) : tBM K "str" (m1 (rO K g false)) (tE K mva vwa fa) (tCons (tE K mvb vwb fb) tNil) σ H Q := by
  obtain ⟨F, s, fps, R, h⟩ := h
  refine ⟨F, s, fps, R, ?_⟩
  try dsimp only at h
  cases ea : fa s with
  | exc x s' => rw [ea] at h; exact h
  | bad => rw [ea] at h; exact h
  | ok d1 s1 =>
    rw [ea] at h
    refine fun x H1 F1 fps1 fp1 R1 st1 rs1 => ?_
    simp only [bind_ok] at h
    cases eb : fb s1 with
    | exc x s' => rw [eb] at h; exact h.elim
    | bad => rw [eb] at h; exact h.elim
    | ok d2 s2 =>
      rw [eb] at h
      simp only [bind_ok] at h
      by_cases hc : (k && d1.own) = true
      · rw [if_pos hc] at h; exact h.elim
      · rw [if_neg hc] at h
        cases eg : g d1 d2 with
        | none => rw [eg] at h; exact h.elim
        | some d =>
          rw [eg] at h
          obtain ⟨z, rfl⟩ := hstr _ _ _ eg
          obtain ⟨rfl, _, _⟩ := rep_str rs1.rep
          refine ⟨rfl, F1, s1, fps1, R1, ?_⟩
          rw [eb]
          refine fun y H2 F2 fps2 fp2 R2 st2 rs2 => ?_
          have rs1' := rs1.on R1 st2 (.inr rfl)
          exact ⟨y, rfl, F2, _, fp1, d2, fp2, d, R2.sub, rs1'.rep, rs2.rep, eg, give_res (vf := false) (vwa := vwa) R2 (st1.trans st2) rs1' h⟩
theorem tE_m0 {K : PySem.W.Frag} {g : D → Option D} (hstr : ∀ x d, g x = some d → ∃ z, x = .str z) {mva vwa : List Nat} {fa : Env → R D} {σ : L2.St} {H : Hp} {Q : VK}
    (h : tE K mva [] (fun s => (fa s).bind fun x s => R.of (g x) s) σ H Q) : tBM0 K "str" (m0 (rU K g false)) (tE K mva vwa fa) σ H Q := by
  obtain ⟨F, s, fps, R, h⟩ := h
  refine ⟨F, s, fps, R, ?_⟩
  try dsimp only at h
  cases ea : fa s with
  | exc x s' => rw [ea] at h; exact h
  | bad => rw [ea] at h; exact h
  | ok d1 s1 =>
    rw [ea] at h
    refine fun x H1 F1 fps1 fp1 R1 st1 rs1 => ?_
    simp only [bind_ok] at h
    cases eg : g d1 with
    | none => rw [eg] at h; exact h.elim
    | some d =>
      rw [eg] at h
      obtain ⟨z, rfl⟩ := hstr _ _ eg
      obtain ⟨rfl, _, _⟩ := rep_str rs1.rep
      exact ⟨rfl, rfl, F1, _, fp1, d, R1.sub, rs1.rep, eg, give_res (vf := false) (vwa := vwa) R1 st1 rs1 h⟩
theorem split_str : ∀ x y d, op2 .split x y = some d → ∃ z, x = .str z := by
  intro x y d h
  cases x <;> first | exact ⟨_, rfl⟩ | (simp [op2] at h)
theorem join_str : ∀ x y d, op2 .join x y = some d → ∃ z, x = .str z := by
  intro x y d h
  cases x <;> first | exact ⟨_, rfl⟩ | (simp [op2] at h)
theorem upper_str : ∀ x d, un1 .upper x = some d → ∃ z, x = .str z := by
  intro x d h
  cases x <;> first | exact ⟨_, rfl⟩ | (simp [un1] at h)
theorem sm_m1 {name : Str} {id : String} {op : O2} {o e : Expr} {apos cpos : Pos} {k : Bool} {mva vwa mvb vwb : List Nat} {fa fb : Env → R D} (hstr : ∀ x y d, op2 op x y = some d → ∃ z, x = .str z) (pa : PlainAttrs "str") (slot : Slot "str" name id)
    (hty : typeOf (.builtin id) = pure (.type "method_descriptor")) (hm : MtR X id (m1 (rO X.K (op2 op) false))) (hk : k = true ∨ disj vwa mvb = true) (ha : PE X o (tE X.K mva vwa fa)) (hb : PE X e (tE X.K mvb vwb fb))
    (hbase : attributeBase o name X.env (eval o X.env) = eval o X.env) (hline : (apos.endLine == cpos.line) = true) (hs : starEach [e] X.env = [(false, eval e X.env)]) :
    PE X (.Call (.Attribute o name apos) [e] [] cpos) (tE X.K (mva ++ mvb) [] fun s => (fa s).bind fun x s => (fb s).bind fun y s => if k && x.own then .bad else R.of (op2 op x y) s) :=
  pe_imp (pe_bm pa slot hty hm ha (sa_1 hb hs) hbase (by rw [hs]; rfl) hline hs rfl) fun σ H Q h => tE_m1 hstr hk h
theorem sm_m0 {name : Str} {id : String} {u : U1} {o : Expr} {apos cpos : Pos} {mva vwa : List Nat} {fa : Env → R D} (hstr : ∀ x d, un1 u x = some d → ∃ z, x = .str z) (pa : PlainAttrs "str") (slot : Slot "str" name id)
    (hty : typeOf (.builtin id) = pure (.type "method_descriptor")) (hm : MtR X id (m0 (rU X.K (un1 u) false))) (ha : PE X o (tE X.K mva vwa fa))
    (hbase : attributeBase o name X.env (eval o X.env) = eval o X.env) (hline : (apos.endLine == cpos.line) = true) : PE X (.Call (.Attribute o name apos) [] [] cpos) (tE X.K mva [] fun s => (fa s).bind fun x s => R.of (un1 u x) s) :=
  pe_imp (pe_bm0 pa slot hty hm ha hbase hline) fun σ H Q h => tE_m0 hstr h
end
end Z

set_option Elab.async false
set_option linter.all false
set_option maxRecDepth 100000
/-! Methods that change a list of a slot. -/
namespace Z
open PySem PySem.Spec PyProof.Rows L2

/-- x.m(y), by values -/
def rMu1 (K : PySem.W.Frag) (m : Mu) : V → List V → Hp → VK → Prop := fun x vs H Q => ∃ F d fp y dy fy r d', vs = [y] ∧ (∀ a o, F a = some o → H a = some o) ∧ Rep K F H x d fp ∧ Rep K F H y dy fy ∧ (∀ a ∈ fy, a ∉ fp) ∧ mutate m d [dy] = some (r, d') ∧
  ∀ v H' fp' fr, (∀ a o, H a = some o → a ∉ fp → H' a = some o) → (∀ a, H' a = none → H a = none) → Rep K F H' x d' fp' → Rep K F H' v r fr → (∀ a ∈ fp', a ∈ fp ∨ a ∈ fy ∨ H a = none) → (∀ a ∈ fr, a ∉ fp' ∧ (a ∈ fp ∨ a ∈ fy ∨ H a = none)) → Q v H'
def fMu1 (m : Mu) (i : Nat) (fe : Env → R D) : Env → R D := fun s => match get s i with
  | none => .bad
  | some d0 => if muOk m d0 then (fe s).bind fun y s => match get s i with
      | none => .bad
      | some d => match mutate m d [y] with
        | some (r, d') => .ok r (s.set i (some d'))
        | none => .bad
    else .bad
theorem tyV_lst {K : PySem.W.Frag} {F H : Hp} {v : V} {d : D} {fp : List Addr} {m : Mu} (hF : ∀ a o, F a = some o → H a = some o) (r : Rep K F H v d fp) (h : muOk m d = true) : tyV K "list" v H := by
  cases r <;> (try (simp [muOk] at h; done))
  · rename_i a vs ds h1 h2
    exact .inl ⟨rfl, vs, sqL_mono h1 hF⟩
  · rename_i a vs ds fp h1 h2 h3 h4
    exact .inl ⟨rfl, vs, SqL.of h1⟩
section
variable {K : PySem.W.Frag} {σ : L2.St} {H : Hp} {Q : VK} {mve : List Nat} {fe : Env → R D} {i : Nat} {m : Mu}
theorem tE_mu1 (h : tE K (mve ++ [i]) [] (fMu1 m i fe) σ H Q) : tBM K "list" (rMu1 K m) (tVar i) (tCons (tE K mve [] fe) tNil) σ H Q := by
  obtain ⟨F, s, fps, R, h⟩ := h
  try dsimp only [fMu1] at h
  cases eg0 : get s i with
  | none => rw [eg0] at h; exact h.elim
  | some d0 =>
    rw [eg0] at h
    obtain ⟨v0, hv0, r0⟩ := R.rep i d0 eg0
    try dsimp only at h
    by_cases hm : muOk m d0 = true
    · rw [if_pos hm] at h
      refine ⟨v0, hv0, tyV_lst R.sub r0 hm, F, s, fps, R, ?_⟩
      cases ee : fe s with
      | exc x s' => rw [ee] at h; exact h
      | bad => rw [ee] at h; exact h
      | ok dy s1 =>
        rw [ee] at h
        simp only [bind_ok] at h
        refine fun y H1 F1 fps1 fpy R1 st1 rs1 => ?_
        cases eg : get s1 i with
        | none => rw [eg] at h; exact h.elim
        | some d =>
          rw [eg] at h
          try dsimp only at h
          cases em : mutate m d [dy] with
          | none => rw [em] at h; exact h.elim
          | some p =>
            obtain ⟨r, d'⟩ := p
            rw [em] at h
            try dsimp only at h
            obtain ⟨v, hv, rr⟩ := R1.rep i d eg
            rw [hv0] at hv
            cases hv
            have fy : ∀ a ∈ fpy, (∀ j, a ∉ fps1 j) ∧ (H a = none ∨ ∃ j ∈ mve, a ∈ fps j) := fun a ha => by
              rcases rs1.fr a ha with ⟨j, hj, _⟩ | q
              · cases hj
              · exact q
            refine ⟨F1, d, fps1 i, y, dy, fpy, r, d', rfl, R1.sub, rr, rs1.rep, fun a ha => (fy a ha).1 i, em, fun w H' fp' fr hk hd r' rw' hn hr => ?_⟩
            have st2 := st1.change (fp' := fp') (s' := s1.set i (some d')) hk hd (fun j hj => get_set_ne hj) fun a ha => by
              rcases hn a ha with q | q | q
              · exact .inl q
              · rcases (fy a q).2 with w | ⟨j, hj, w⟩
                · exact .inr (.inr (.inl w))
                · exact .inr (.inr (.inr ⟨j, hj, w⟩))
              · exact .inr (.inl q)
            have R2 := R1.change (d' := d') (get_lt eg) hv0 hk (fun a ha => (R1.there ha).1) r' fun a ha => by
              rcases hn a ha with q | q | q
              · exact .inl q
              · exact .inr (fy a q).1
              · refine .inr fun j z => ?_
                obtain ⟨_, o, ho, _⟩ := R1.there z
                rw [q] at ho; cases ho
            refine h w H' F1 _ fr R2 st2 ⟨rw', fun a ha => .inr ⟨fun j z => ?_, ?_⟩⟩
            · by_cases hj : j = i
              · simp only [if_pos hj] at z
                exact (hr a ha).1 z
              · simp only [if_neg hj] at z
                rcases (hr a ha).2 with q | q | q
                · exact R1.dis i j (fun e => hj e.symm) a q z
                · exact (fy a q).1 j z
                · obtain ⟨_, o, ho, _⟩ := R1.there z
                  rw [q] at ho; cases ho
            · rcases (hr a ha).2 with q | q | q
              · rcases st1.back q with w | ⟨j, hj, w⟩ | ⟨_, w⟩
                · exact .inl w
                · exact .inr ⟨j, List.mem_append_left _ hj, w⟩
                · exact .inr ⟨i, List.mem_append_right _ (List.mem_singleton.mpr rfl), w⟩
              · rcases (fy a q).2 with w | ⟨j, hj, w⟩
                · exact .inl w
                · exact .inr ⟨j, List.mem_append_left _ hj, w⟩
              · exact .inl (st1.d a q)
    · rw [if_neg hm] at h
      exact h.elim
end
section
variable {X : Cx}
theorem mu_append : MtR X "list.append" (rMu1 X.K .append) := by
  intro pins s σ H x vs v us Q I rx rv h
  obtain ⟨F, d, fp, y, dy, fy, r, d', rfl, m, r1, r2, hn, e, q⟩ := h
  cases d <;> (try (simp only [mutate, reduceCtorEq] at e; done))
  rename_i b xs
  cases b <;> (try (simp only [mutate, reduceCtorEq] at e; done))
  simp only [mutate] at e
  by_cases hl : xs.length < SL
  · rw [if_pos hl] at e
    cases e
    cases r1 with
    | @lstO a ws _ fp0 h hf hs ha =>
      refine mt_append pins s σ H _ _ v us Q I rx rv ⟨a, ws, y, rfl, rfl, h, by rw [hs.len]; exact hl, ?_⟩
      have hu : ∀ b : Addr, b ≠ a → ∀ o, H b = some o → (upd H a (.lst (ws ++ [y]))) b = some o := fun b hb o e => by rw [upd_ne hb]; exact e
      have hs' : Reps X.K F (upd H a (.lst (ws ++ [y]))) ws xs fp0 := hs.mono (fun _ _ e => e) fun b hb => ⟨hu b (fun z => ha (z ▸ hb)), (hs.own b hb).1⟩
      have r2' : Rep X.K F (upd H a (.lst (ws ++ [y]))) y dy fy := r2.mono (fun _ _ e => e) fun b hb => ⟨hu b (fun z => hn b hb (z ▸ List.mem_cons_self)), (r2.own b hb).1⟩
      have h3 : Reps X.K F (upd H a (.lst (ws ++ [y]))) (ws ++ [y]) (xs ++ [dy]) (fp0 ++ (fy ++ [])) := hs'.app (Reps.cons r2' .nil fun _ _ z => nomatch z) fun b hb z => by
        rw [List.append_nil] at z
        exact hn b z (List.mem_cons_of_mem _ hb)
      rw [List.append_nil] at h3
      refine q .non _ (a :: (fp0 ++ fy)) [] (fun b o e hb => hu b (fun z => hb (z ▸ List.mem_cons_self)) o e) (fun b e => ?_) (.lstO upd_same hf h3 fun z => ?_) .non (fun b hb => ?_) fun b hb => nomatch hb
      · by_cases hb : b = a
        · subst hb; rw [upd_same] at e; cases e
        · rw [upd_ne hb] at e; exact e
      · rcases List.mem_append.mp z with z | z
        · exact ha z
        · exact hn a z List.mem_cons_self
      · rcases List.mem_cons.mp hb with z | z
        · subst z; exact .inl List.mem_cons_self
        · rcases List.mem_append.mp z with z | z
          · exact .inl (List.mem_cons_of_mem _ z)
          · exact .inr (.inl z)
  · rw [if_neg hl] at e; cases e
theorem sm_mu1 {x : Str} {xp : Pos} {name : Str} {id : String} {m : Mu} {e : Expr} {apos cpos : Pos} {i : Nat} {mve : List Nat} {fe : Env → R D} (slot : Slot "list" name id)
    (hty : typeOf (.builtin id) = pure (.type "method_descriptor")) (hm : MtR X id (rMu1 X.K m)) (ha : PE X (.Name x xp) (tVar i)) (hb : PE X e (tE X.K mve [] fe))
    (hline : (apos.endLine == cpos.line) = true) (hs : starEach [e] X.env = [(false, eval e X.env)]) :
    PE X (.Call (.Attribute (.Name x xp) name apos) [e] [] cpos) (tE X.K (mve ++ [i]) [] (fMu1 m i fe)) :=
  pe_imp (pe_bm PySem.F.plainAttrs_list slot hty hm ha (sa_1 hb hs) rfl (by rw [hs]; rfl) hline hs rfl) fun σ H Q h => tE_mu1 h
end
end Z

set_option Elab.async false
set_option linter.all false
set_option maxRecDepth 100000
namespace Z
open PySem PySem.Spec PyProof.Rows L2

/-! ### which slots an expression may change, which its value may lie in -/
mutual
def mvE : E → List Nat
  | .c _ => []
  | .v _ => []
  | .fr i => [i]
  | .mov i => [i]
  | .val e => mvE e
  | .fz e => mvE e
  | .un _ a => mvE a
  | .op _ _ a b => mvE a ++ mvE b
  | .slc _ _ a l h => mvE a ++ mvE l ++ mvE h
  | .and a b => mvE a ++ mvE b
  | .or a b => mvE a ++ mvE b
  | .ite c a b => mvE c ++ (mvE a ++ mvE b)
  | .chain _ _ a b c => mvE a ++ mvE b ++ mvE c
  | .tup es => mvL es
  | .lst es => mvL es
  | .call _ as es => mvL es ++ as.filterMap id
  | .mu _ i es => mvL es ++ [i]
  | .comp elt tg src cnd own => mvR src ++ minus (tg.sl ++ mvE cnd ++ mvE elt) own
def mvL : EL → List Nat
  | .nil => []
  | .cons e es => mvE e ++ mvL es
def mvR : Sr → List Nat
  | .of e => mvE e
  | .rng a => mvE a
  | .rng3 a b c => mvE a ++ mvE b ++ mvE c
  | .zip a b => mvE a ++ mvE b
  | .enum a => mvE a
end
def vwE : E → List Nat
  | .v i => [i]
  | .op .ix _ a _ => vwE a
  | .and _ b => vwE b
  | .or _ b => vwE b
  | .ite _ a b => vwE a ++ vwE b
  | _ => []
def vwR : Sr → List Nat
  | .of e => vwE e
  | .rng a => vwE a
  | .zip a b => vwE a ++ vwE b
  | .enum a => vwE a
  | .rng3 _ _ _ => []
def mvS : S → List Nat
  | .skip => []
  | .asg i e => mvE e ++ [i]
  | .unp is e => mvE e ++ is
  | .st i k e => mvE e ++ mvE k ++ [i]
  | .aug i _ e => mvE e ++ [i]
  | .ex e => mvE e
  | .ret e => mvE e
  | .seq a b => mvS a ++ mvS b
  | .ite c a b => mvE c ++ (mvS a ++ mvS b)
  | .wh c b => mvE c ++ mvS b
  | .for tg src b => mvR src ++ (mvS b ++ tg.sl)
  | .brk => []
  | .cnt => []
def asS : S → List Nat
  | .skip => []
  | .asg i _ => [i]
  | .unp is _ => is
  | .st _ _ _ => []
  | .aug i _ _ => [i]
  | .ex _ => []
  | .ret _ => []
  | .seq a b => asS a ++ asS b
  | .ite _ a b => asS a ++ asS b
  | .wh _ b => asS b
  | .for tg _ b => asS b ++ tg.sl
  | .brk => []
  | .cnt => []

/-! ### from the text -/
structure Gm where
  consts : List (Str × D)
  funs : List (Str × Nat × List Bool)
def okN (x : Str) : Bool := !(x == ("__debug__" : Str)) && !(x == ("__classdict__" : Str))
def isVis (sc : Scope) (x : Str) : Bool := match sc.names.lookup x with
  | some .local => true
  | some .cell => true
  | some .free => true
  | _ => false
def isGl (sc : Scope) (x : Str) : Bool := match sc.names.lookup x with
  | some .globalImplicit => true
  | _ => false
def slot (N : List Str) (sc : Scope) (x : Str) : Option Nat := if isVis sc x && okN x then N.idxOf? x else none
def valI (e : E) : E := if (vwE e).isEmpty then e else .val e
def valF : E → E
  | .v i => .fr i
  | e => valI e
def wrapF : E → E
  | .lst es => .fz (.lst es)
  | .comp a b c d e => .fz (.comp a b c d e)
  | .call f as es => .fz (.call f as es)
  | e => e
def cmpOf : CmpOp → Option O2
  | .Eq => some .eq
  | .NotEq => some .ne
  | .Lt => some .lt
  | .LtE => some .le
  | .Gt => some .gt
  | .GtE => some .ge
  | .In => some .isin
  | .NotIn => some .notin
  | _ => none
def binOf : Operator → Option O2
  | .Add => some .add
  | .Sub => some .sub
  | .Mult => some .mul
  | .FloorDiv => some .fdiv
  | .Mod => some .mod
  | .Pow => some .pow
  | _ => none
def fnU (x : Str) : Option U1 := if x = "len" then some .len else if x = "all" then some .all else if x = "any" then some .any else none
def tyU (x : Str) : Option U1 := if x = "list" then some .list else if x = "tuple" then some .tuple else if x = "int" then some .int else none
def fn2 (x : Str) : Option O2 := if x = "min" then some .min else if x = "max" then some .max else none
def isN (x : Str) : Option U1 := if x = "str" then some .isStr else if x = "tuple" then some .isTup else if x = "list" then some .isLst else if x = "bool" then some .isBool else if x = "int" then some .isInt else none
def isStar : Expr → Bool
  | .Starred .. => true
  | _ => false
def isSlice : Expr → Bool
  | .Slice .. => true
  | _ => false
def isComp : Expr → Bool
  | .ListComp .. => true
  | .SetComp .. => true
  | .DictComp .. => true
  | _ => false
def isCall : Expr → Bool
  | .Call .. => true
  | _ => false
def isSet : Expr → Bool
  | .Set .. => true
  | _ => false
def isTupE : Expr → Bool
  | .Tuple .. => true
  | _ => false
def opK (o : O2) (a b : E) : E := .op o (!disj (vwE a) (mvE b)) a b
def ownOf (N : List Str) (scope : Scope) : List (Str × Nat) := scope.names.filterMap fun p => match p.2 with
  | .local => (N.idxOf? p.1).map fun i => (p.1, i)
  | .cell => (N.idxOf? p.1).map fun i => (p.1, i)
  | _ => none
structure TR where
  E : Scope → Expr → Option E
  T : Scope → Expr → Option Z.E
section
variable (Γ : Gm) (N : List Str)
def trV (r : TR) (sc : Scope) (e : Expr) : Option E := (r.E sc e).map valF
def trL (r : TR) (sc : Scope) : List Expr → Option EL
  | [] => some .nil
  | e :: es => if isStar e then none else (trV r sc e).bind fun e' => (trL r sc es).map fun es' => .cons e' es'
/-- the arguments of a def; which are handed in and out -/
def trA (r : TR) (sc : Scope) : List Bool → List Expr → Option (List (Option Nat) × EL)
  | [], [] => some ([], .nil)
  | true :: ks, .Name x _ :: es => (slot N sc x).bind fun i => (trA r sc ks es).map fun p => (some i :: p.1, .cons (.v i) p.2)
  | false :: ks, e :: es => if isStar e then none else (trV r sc e).bind fun e' => (trA r sc ks es).map fun p => (none :: p.1, .cons e' p.2)
  | _, _ => none
def trEnd (r : TR) (sc : Scope) : Option Expr → Option (Bool × E)
  | none => some (false, .c .non)
  | some e => (r.E sc e).map fun e' => (true, e')
def boolL (r : TR) (sc : Scope) (mk : E → E → E) : List Expr → Option E
  | [] => none
  | [a] => r.E sc a
  | a :: b :: rest => (r.E sc a).bind fun a' => (boolL r sc mk (b :: rest)).map fun b' => mk a' b'
def boolT (r : TR) (sc : Scope) (mk : E → E → E) : List Expr → Option E
  | [] => none
  | [a] => r.T sc a
  | a :: b :: rest => (r.T sc a).bind fun a' => (boolT r sc mk (b :: rest)).map fun b' => mk a' b'
def slotsOf (N : List Str) (sc : Scope) : List Expr → Option (List Nat)
  | [] => some []
  | .Name x _ :: es => (slot N sc x).bind fun i => (slotsOf N sc es).map fun is => i :: is
  | _ => none
/-- a target; ok says that the name may be stored here -/
def trG (sc : Scope) (ok : Str → Bool) : Expr → Option T
  | .Name x _ => if ok x then (slot N sc x).map .nm else none
  | .Tuple es _ _ => if es.all (fun e => match e with | .Name x _ => ok x | _ => false) then (slotsOf N sc es).map .tp else none
  | _ => none
def trR (r : TR) (sc : Scope) : Expr → Option Sr
  | .Call (.Name f p) [a] [] pos => if f = "range" ∧ isGl sc f then (if isStar a then none else (r.E sc a).map .rng) else (r.E sc (.Call (.Name f p) [a] [] pos)).map fun e => .of (wrapF e)
  | e => if isSet e then none else (r.E sc e).map fun e => .of (wrapF e)
def cmpE (r : TR) (sc : Scope) (a : Expr) (ops : List CmpOp) (cs : List Expr) : Option E := match ops, cs with
  | [.Is], [.Constant .none _ _] => (r.E sc a).map (.un .isNone)
  | [.IsNot], [.Constant .none _ _] => (r.E sc a).map (.un .notNone)
  | [o], [b] => if isSet b then none else (cmpOf o).bind fun o' => (r.E sc a).bind fun a' => (r.E sc b).map fun b' => opK o' a' b'
  | [o, q], [b, c] => if isSet b || isSet c then none else (cmpOf o).bind fun o' => (cmpOf q).bind fun q' => (r.E sc a).bind fun a' => (r.E sc b).bind fun b' => (r.E sc c).map fun c' => .chain o' q' a' b' c'
  | _, _ => none
def trC (r : TR) (sc : Scope) : List Expr → Option E
  | [] => some (.c (.bl true))
  | [c] => r.T sc c
  | _ => none
def mu1 (x : Str) : Option Mu := if x = "append" then some .append else none
def muE (r : TR) (sc : Scope) (m : Str) (o a : Expr) : Option E := match o with
  | .Name x _ => (mu1 m).bind fun m' => (slot N sc x).bind fun i => (trV r sc a).map fun a' => .mu m' i (.cons a' .nil)
  | _ => none
def stepE (r : TR) (sc : Scope) : Expr → Option E
  | .Name x _ => match slot N sc x with
    | some i => some (.v i)
    | none => if isGl sc x && okN x then (Γ.consts.lookup x).map .c else none
  | .Constant (.int i) _ _ => some (.c (.int i))
  | .Constant (.bool b) _ _ => some (.c (.bl b))
  | .Constant .none _ _ => some (.c .non)
  | .Constant (.str x) _ _ => if asc x.cps.toList then some (.c (.str x.cps.toList)) else none
  | .BinOp a o b _ => (binOf o).bind fun o' => (r.E sc a).bind fun a' => (r.E sc b).map fun b' => opK o' (wrapF a') (wrapF b')
  | .UnaryOp .USub a _ => (r.E sc a).map (.un .neg)
  | .UnaryOp .Not a _ => (r.E sc a).map (.un .not)
  | .Compare a ops cs _ => cmpE r sc a ops cs
  | .BoolOp .And vs _ => boolL r sc .and vs
  | .BoolOp .Or vs _ => boolL r sc .or vs
  | .IfExp c a b _ => (r.T sc c).bind fun c' => (r.E sc a).bind fun a' => (r.E sc b).map fun b' => .ite c' a' b'
  | .Tuple es _ _ => if es.length ≤ 1000 then (trL r sc es).map .tup else none
  | .List es _ => if es.length ≤ 1000 then (trL r sc es).map .lst else none
  | .Subscript a (.Slice lo hi none _) _ => (r.E sc a).bind fun a' => (trEnd r sc lo).bind fun l => (trEnd r sc hi).map fun h => .slc l.1 h.1 a' l.2 h.2
  | .Subscript a b _ => if isSlice b then none else (r.E sc a).bind fun a' => (r.E sc b).map fun b' => opK .ix a' b'
  | .ListComp elt [⟨t, it, ifs, n⟩] scope _ =>
    if n = 0 ∧ blkC N sc scope (ownOf N scope) = true then
      (trR r sc it).bind fun src => (trG N (relS scope sc) (fun x => scope.names.lookup x == some .cell || (relS scope sc).names.lookup x == some .local) t).bind fun tg =>
        (trC r (relS scope sc) ifs).bind fun cnd => (trV r (relS scope sc) elt).bind fun elt' =>
            if disj (vwR src) (minus (tg.sl ++ mvE cnd ++ mvE elt') ((ownOf N scope).map (·.2))) && tg.sl.all (fun i => ((ownOf N scope).map (·.2)).contains i) then some (.comp elt' tg src cnd ((ownOf N scope).map (·.2))) else none
    else none
  | .Call (.Name f _) args [] _ => if !isGl sc f || !okN f then none else match Γ.funs.lookup f with
    | some (i, ks) => (trA N r sc ks args).map fun p => .call i p.1 p.2
    | none => match args with
      | [a] => if isStar a then none else match fnU f with
        | some u => (r.E sc a).map (.un u)
        | none => (tyU f).bind fun u => (r.E sc a).map fun a' => .un u (wrapF a')
      | [a, b] => if isStar a || isStar b then none else match fn2 f with
        | some o => (r.E sc a).bind fun a' => (r.E sc b).map fun b' => opK o a' b'
        | none => if f = "isinstance" then (match b with
            | .Name y _ => if isGl sc y && okN y then (isN y).bind fun u => (r.E sc a).map (.un u) else none
            | _ => none) else none
      | _ => none
  | .Call (.Attribute o m apos) args [] cpos => if isCall o || !(apos.endLine == cpos.line) then none else match args with
    | [] => if m = "upper" then (r.E sc o).map (.un .upper) else none
    | [a] => if isStar a then none else
      if m = "split" then (r.E sc o).bind fun o' => (r.E sc a).map fun a' => opK .split o' a'
      else if m = "join" then (r.E sc o).bind fun o' => (r.E sc a).map fun a' => opK .join o' a'
      else muE N r sc m o a
    | _ => none
  | _ => none
def stepT (r : TR) (sc : Scope) : Expr → Option E
  | .UnaryOp .Not a _ => (r.T sc a).map (.un .not)
  | .BoolOp .And vs _ => boolT r sc .and vs
  | .BoolOp .Or vs _ => boolT r sc .or vs
  | .Compare a ops cs _ => cmpE r sc a ops cs
  | .Name x p => r.E sc (.Name x p)
  | .Constant c j p => r.E sc (.Constant c j p)
  | .Call f as ks p => r.E sc (.Call f as ks p)
  | .Subscript a b p => r.E sc (.Subscript a b p)
  | _ => none
def tr : Nat → TR
  | 0 => ⟨fun _ _ => none, fun _ _ => none⟩
  | n + 1 => ⟨stepE Γ N (tr n), stepT (tr n)⟩
end
end Z

set_option Elab.async false
set_option linter.all false
set_option maxRecDepth 100000
namespace Z
open PySem PySem.Spec PyProof.Rows L2

def bnames : List Str := ["len", "all", "any", "list", "tuple", "int", "min", "max", "isinstance", "range", "str", "bool"]
/-- what is known of a def's (or a block's) context -/
structure Gd (P : Nat → Option Fn) (Γ : Gm) (k : Nat) (X : Cx) : Prop where
  calm : X.calm = true
  nd : X.N.Nodup
  hp : PassesOwn (model X.prog X.w) X.A X.env X.xe
  room : Room k X.A
  cs : ∀ x d, Γ.consts.lookup x = some d → ∃ u v, X.mg x = some u ∧ RelV v u ∧ ∀ F H, Rep X.K F H v d []
  bl : ∀ x ∈ bnames, X.mg x = none
  fs : ∀ x f ks, Γ.funs.lookup x = some (f, ks) → ∃ a fd ps, X.mg x = some (.ref a) ∧ PySem.W.keepIn X.K (.ref a) = true ∧ Binds X.K fd ps [] ∧ ps.length = ks.length ∧ FnOk X.prog X.w X.K X.mg X.base CX0 k a fd ps (spF X.K ks.length (run P k f))
theorem Gd.blk {P : Nat → Option Fn} {Γ : Gm} {k : Nat} {X : Cx} (G : Gd P Γ k X) (s : Shared) (H : Hp) (scope : Scope) (cenv : PySem.Env) (fp : List Addr) : Gd P Γ k (X.blk s H scope cenv fp) := ⟨G.calm, G.nd, PassesOwn.never, G.room, G.cs, G.bl, G.fs⟩
def SE (P : Nat → Option Fn) (k : Nat) (X : Cx) (e : Expr) (e' : E) : Prop := PE X e (tE X.K (mvE e') (vwE e') (ev (run P k) e'))
def ST (P : Nat → Option Fn) (k : Nat) (X : Cx) (e : Expr) (e' : E) : Prop := PT X e (tT X.K (mvE e') (ev (run P k) e'))
section
variable {P : Nat → Option Fn} {Γ : Gm} {k : Nat} {X : Cx} {N : List Str} {sc : Scope} {pos : Pos}
theorem hu65 (G : Gd P Γ k X) : X.A.units + 65 < cLine := by have := G.room.un; omega
theorem hu64 (G : Gd P Γ k X) : X.A.units + 64 < cLine := by have := G.room.un; omega
theorem isGl_gl {x : Str} (h : isGl sc x = true) (hs : X.env.scope = sc) : Gl X x := by
  unfold isGl at h
  show X.env.scope.names.lookup x = _
  rw [hs]
  cases e : sc.names.lookup x with
  | none => rw [e] at h; cases h
  | some w => cases w <;> rw [e] at h <;> first | rfl | cases h
theorem isVis_vis {x : Str} (h : isVis sc x = true) (hs : X.env.scope = sc) : Vis X.env.scope x := by
  unfold isVis at h
  rw [hs]
  cases e : sc.names.lookup x with
  | none => rw [e] at h; cases h
  | some w => cases w <;> rw [e] at h <;> first | exact .inl e | exact .inr (.inl e) | exact .inr (.inr e) | cases h
theorem slot_some {x : Str} {i : Nat} (h : slot N sc x = some i) : isVis sc x = true ∧ okN x = true ∧ N[i]? = some x := by
  unfold slot at h
  by_cases q : (isVis sc x && okN x) = true
  · rw [if_pos q] at h
    rw [Bool.and_eq_true] at q
    rw [List.idxOf?_eq_some_iff] at h
    obtain ⟨hi, h1, _⟩ := h
    exact ⟨q.1, q.2, by rw [List.getElem?_eq_getElem hi, h1]⟩
  · rw [if_neg q] at h; cases h
theorem okN_d {x : Str} (h : okN x = true) : (x == ("__debug__" : Str)) = false ∧ (x == ("__classdict__" : Str)) = false := by
  unfold okN at h
  simp only [Bool.and_eq_true, Bool.not_eq_true'] at h
  exact h
theorem pe_slot {x : Str} {i : Nat} (hN : X.N = N) (hs : X.env.scope = sc) (h : slot N sc x = some i) : PE X (.Name x pos) (tVar i) := by
  obtain ⟨h1, h2, h3⟩ := slot_some h
  exact pe_var (by rw [hN]; exact h3) (isVis_vis h1 hs) (okN_d h2).1 (okN_d h2).2
theorem star_cons {e : Expr} {es : List Expr} {env : PySem.Env} (h : isStar e = false) : starEach (e :: es) env = (false, eval e env) :: starEach es env := by
  cases e <;> first | rfl | (simp [isStar] at h)
theorem behind_ok {op : CmpOp} {b : Expr} (h : isSet b = false) : behindInMarks op b = false := by
  cases b <;> first | rfl | (simp [isSet] at h)
/-! equations -/
variable {C : Nat → List D → CR}
theorem ev_fr (i : Nat) : ev C (.fr i) = fun s => match get s i with | some d => .ok d.frz (s.set i (some d.frz)) | none => .bad := rfl
theorem ev_v (i : Nat) : ev C (.v i) = fun s => R.of (get s i) s := rfl
theorem ev_c (d : D) : ev C (.c d) = fun s => .ok d s := rfl
theorem ev_un (u : U1) (a : E) : ev C (.un u a) = fun s => (ev C a s).bind fun x s => R.of (un1 u x) s := rfl
theorem ev_op (o : O2) (k : Bool) (a b : E) : ev C (.op o k a b) = fun s => (ev C a s).bind fun x s => (ev C b s).bind fun y s => if k && x.own then .bad else R.of (op2 o x y) s := rfl
theorem ev_and (a b : E) : ev C (.and a b) = fAnd (ev C a) (ev C b) := rfl
theorem ev_or (a b : E) : ev C (.or a b) = fOr (ev C a) (ev C b) := rfl
theorem ev_ite (c a b : E) : ev C (.ite c a b) = fIte (ev C c) (ev C a) (ev C b) := rfl
theorem ev_call (f : Nat) (as : List (Option Nat)) (es : EL) : ev C (.call f as es) = fCall as (C f) (evL C es) := rfl
theorem ev_comp (elt : E) (tg : T) (src : Sr) (cnd : E) (own : List Nat) : ev C (.comp elt tg src cnd own) = fComp tg own (evS C src) (ev C cnd) (ev C elt) := rfl
theorem ev_chain (o p : O2) (a b c : E) : ev C (.chain o p a b c) = fChain (op2 o) (op2 p) (ev C a) (ev C b) (ev C c) := rfl
theorem evL_cons (e : E) (es : EL) : evL C (.cons e es) = fun s => (ev C e s).bind fun d s => (evL C es s).bind fun ds s => .ok (d :: ds) s := rfl
theorem evL_nil : evL C .nil = fun s => .ok [] s := rfl

/-! value positions -/
theorem vi_ok {e : Expr} {e' : E} (h : SE P k X e e') : PE X e (tE X.K (mvE (valI e')) [] (ev (run P k) (valI e'))) := by
  unfold valI
  by_cases hv : (vwE e').isEmpty = true
  · rw [if_pos hv]
    unfold SE at h
    rw [List.isEmpty_iff.mp hv] at h
    exact h
  · rw [if_neg hv]
    exact se_val h
theorem val_ok {e : Expr} {e' : E} (h : SE P k X e e') : PE X e (tE X.K (mvE (valF e')) [] (ev (run P k) (valF e'))) := by
  cases e' <;> first | exact se_frv h | exact vi_ok h
theorem wrap_ok {e : Expr} {e' : E} (h : SE P k X e e') : SE P k X e (wrapF e') := by
  cases e' <;> first | exact h | exact se_fz h
theorem vwE_of_val {e' : E} (h : True) : True := h

/-- sound translations -/
structure RS (P : Nat → Option Fn) (Γ : Gm) (N : List Str) (k : Nat) (r : TR) : Prop where
  E : ∀ sc e e', r.E sc e = some e' → ∀ X : Cx, X.N = N → X.env.scope = sc → Gd P Γ k X → SE P k X e e'
  T : ∀ sc e e', r.T sc e = some e' → ∀ X : Cx, X.N = N → X.env.scope = sc → Gd P Γ k X → ST P k X e e'
variable {r : TR}
theorem trV_ok (rs : RS P Γ N k r) (hN : X.N = N) (hs : X.env.scope = sc) (G : Gd P Γ k X) {e : Expr} {e' : E} (h : trV r sc e = some e') : PE X e (tE X.K (mvE e') [] (ev (run P k) e')) := by
  unfold trV at h
  rw [Option.map_eq_some_iff] at h
  obtain ⟨e0, h0, rfl⟩ := h
  exact val_ok (rs.E sc e e0 h0 X hN hs G)
theorem trL_ok (rs : RS P Γ N k r) (hN : X.N = N) (hs : X.env.scope = sc) (G : Gd P Γ k X) : ∀ {es : List Expr} {es' : EL}, trL r sc es = some es' → PA X es (tA X.K (mvL es') (evL (run P k) es'))
  | [], es', h => by
    cases h
    exact sa_nil
  | e :: es, es', h => by
    unfold trL at h
    cases hst : isStar e with
    | true => rw [hst] at h; cases h
    | false =>
      rw [hst] at h
      simp only [Bool.false_eq_true, if_false, Option.bind_eq_some_iff, Option.map_eq_some_iff] at h
      obtain ⟨e', h1, es2, h2, rfl⟩ := h
      exact sa_cons (trV_ok rs hN hs G h1) (trL_ok rs hN hs G h2) (star_cons hst)
theorem evL_len {C : Nat → List D → CR} : ∀ {es : EL} {s s' : Env} {ds : List D} {n : Nat}, evL C es s = .ok ds s' → True := fun _ => trivial
theorem trL_len : ∀ {es : List Expr} {es' : EL}, trL r sc es = some es' → ∀ (s s' : Env) (ds : List D), evL C es' s = .ok ds s' → ds.length = es.length
  | [], es', h, s, s', ds, e => by
    cases h
    rw [evL_nil] at e
    cases e
    rfl
  | e0 :: es, es', h, s, s', ds, e => by
    unfold trL at h
    cases hst : isStar e0 with
    | true => rw [hst] at h; cases h
    | false =>
      rw [hst] at h
      simp only [Bool.false_eq_true, if_false, Option.bind_eq_some_iff, Option.map_eq_some_iff] at h
      obtain ⟨e', h1, es2, h2, rfl⟩ := h
      rw [evL_cons] at e
      try dsimp only at e
      cases ea : ev C e' s with
      | exc x s' => rw [ea] at e; cases e
      | bad => rw [ea] at e; cases e
      | ok d s1 =>
        rw [ea] at e
        simp only [bind_ok] at e
        cases eb : evL C es2 s1 with
        | exc x s' => rw [eb] at e; cases e
        | bad => rw [eb] at e; cases e
        | ok ds2 s2 =>
          rw [eb] at e
          simp only [bind_ok] at e
          cases e
          rw [List.length_cons, List.length_cons, trL_len h2 s1 _ ds2 eb]
theorem trA_ok (rs : RS P Γ N k r) (hN : X.N = N) (hs : X.env.scope = sc) (G : Gd P Γ k X) : ∀ {ks : List Bool} {es : List Expr} {p : List (Option Nat) × EL}, trA N r sc ks es = some p →
    PA X es (tK X.K p.1 (mvL p.2) (evL (run P k) p.2)) ∧ p.1.length = ks.length ∧ es.length = ks.length ∧ ∀ e es2, es = e :: es2 → starEach (e :: es2) X.env = (false, eval e X.env) :: starEach es2 X.env ∧ (∀ ps : Pos, (backTo ps (starEach es2 X.env)).any (·.1) = false)
  | [], [], p, h => by
    cases h
    exact ⟨sk_nil, rfl, rfl, fun _ _ e => nomatch e⟩
  | [], _ :: _, p, h => by simp [trA] at h
  | true :: _, [], p, h => by simp [trA] at h
  | false :: _, [], p, h => by simp [trA] at h
  | true :: ks, e :: es, p, h => by
    cases e <;> (try (simp [trA] at h; done))
    rename_i x xp
    simp only [trA, Option.bind_eq_some_iff, Option.map_eq_some_iff] at h
    obtain ⟨i, h1, q, h2, rfl⟩ := h
    obtain ⟨a, b, c, d⟩ := trA_ok rs hN hs G h2
    refine ⟨sk_io (pe_slot hN hs h1) a rfl, by simp [b], by simp [c], fun e es2 z => ?_⟩
    cases z
    refine ⟨rfl, fun ps => ?_⟩
    cases es with
    | nil => rfl
    | cons e es =>
      obtain ⟨d1, d2⟩ := d e es rfl
      rw [d1]
      show (false || _) = false
      rw [Bool.false_or]
      exact d2 ps
  | false :: ks, e :: es, p, h => by
    unfold trA at h
    cases hst : isStar e with
    | true => rw [hst] at h; cases h
    | false =>
      rw [hst] at h
      simp only [Bool.false_eq_true, if_false, Option.bind_eq_some_iff, Option.map_eq_some_iff] at h
      obtain ⟨e', h1, q, h2, rfl⟩ := h
      obtain ⟨a, b, c, d⟩ := trA_ok rs hN hs G h2
      refine ⟨sk_val (trV_ok rs hN hs G h1) a (star_cons hst), by simp [b], by simp [c], fun e es2 z => ?_⟩
      cases z
      refine ⟨star_cons hst, fun ps => ?_⟩
      cases es with
      | nil => rfl
      | cons e es =>
        obtain ⟨d1, d2⟩ := d e es rfl
        rw [d1]
        show (false || _) = false
        rw [Bool.false_or]
        exact d2 ps
/-! bool operators -/
theorem boolL_and (rs : RS P Γ N k r) (hN : X.N = N) (hs : X.env.scope = sc) (G : Gd P Γ k X) : ∀ {vs : List Expr} {e' : E}, boolL r sc .and vs = some e' → SE P k X (.BoolOp .And vs pos) e'
  | [], _, h => by cases h
  | [a], e', h => pe_one (rs.E sc a e' h X hN hs G)
  | a :: b :: rest, e', h => by
    simp only [boolL, Option.bind_eq_some_iff, Option.map_eq_some_iff] at h
    obtain ⟨a', h1, b', h2, rfl⟩ := h
    exact se_and (rs.E sc a a' h1 X hN hs G) (boolL_and rs hN hs G h2)
theorem boolL_or (rs : RS P Γ N k r) (hN : X.N = N) (hs : X.env.scope = sc) (G : Gd P Γ k X) : ∀ {vs : List Expr} {e' : E}, boolL r sc .or vs = some e' → SE P k X (.BoolOp .Or vs pos) e'
  | [], _, h => by cases h
  | [a], e', h => pe_one (rs.E sc a e' h X hN hs G)
  | a :: b :: rest, e', h => by
    simp only [boolL, Option.bind_eq_some_iff, Option.map_eq_some_iff] at h
    obtain ⟨a', h1, b', h2, rfl⟩ := h
    exact se_or (rs.E sc a a' h1 X hN hs G) (boolL_or rs hN hs G h2)
theorem boolT_and (rs : RS P Γ N k r) (hN : X.N = N) (hs : X.env.scope = sc) (G : Gd P Γ k X) : ∀ {vs : List Expr} {e' : E}, boolT r sc .and vs = some e' → PW X (.BoolOp .And vs pos) (tT X.K (mvE e') (ev (run P k) e'))
  | [], _, h => by cases h
  | [a], e', h => pw_and1 (rs.T sc a e' h X hN hs G)
  | a :: b :: rest, e', h => by
    simp only [boolT, Option.bind_eq_some_iff, Option.map_eq_some_iff] at h
    obtain ⟨a', h1, b', h2, rfl⟩ := h
    exact st_and (rs.T sc a a' h1 X hN hs G) (boolT_and rs hN hs G h2)
theorem boolT_or (rs : RS P Γ N k r) (hN : X.N = N) (hs : X.env.scope = sc) (G : Gd P Γ k X) : ∀ {vs : List Expr} {e' : E}, boolT r sc .or vs = some e' → PW X (.BoolOp .Or vs pos) (tT X.K (mvE e') (ev (run P k) e'))
  | [], _, h => by cases h
  | [a], e', h => pw_or1 (rs.T sc a e' h X hN hs G)
  | a :: b :: rest, e', h => by
    simp only [boolT, Option.bind_eq_some_iff, Option.map_eq_some_iff] at h
    obtain ⟨a', h1, b', h2, rfl⟩ := h
    exact st_or (rs.T sc a a' h1 X hN hs G) (boolT_or rs hN hs G h2)
/-! operators -/
theorem binOf_ok {o : Operator} {o' : O2} (h : binOf o = some o') : OpR X (binaryOp o) (rO X.K (op2 o') false) ∧ o' ≠ .ix := by
  cases o <;> simp only [binOf, reduceCtorEq, Option.some.injEq] at h <;> subst h
  · exact ⟨or_add, by simp⟩
  · exact ⟨or_sub, by simp⟩
  · exact ⟨or_mul, by simp⟩
  · exact ⟨or_mod, by simp⟩
  · exact ⟨or_pow, by simp⟩
  · exact ⟨or_fdiv, by simp⟩
theorem cmpOf_ok (G : Gd P Γ k X) {o : CmpOp} {o' : O2} (h : cmpOf o = some o') : OpR X (compareOp o) (rO X.K (op2 o') false) ∧ o' ≠ .ix ∧ ∀ x y z, op2 o' x y = some z → ∃ b, z = .bl b := by
  have bb : ∀ {q : Option Bool} {z : D}, q.map D.bl = some z → ∃ b, z = .bl b := fun {q z} h => by
    rw [Option.map_eq_some_iff] at h
    obtain ⟨b, _, e⟩ := h
    exact ⟨b, e.symm⟩
  have bn : ∀ {q : Option Bool} {z : D}, (q.map fun b => D.bl (!b)) = some z → ∃ b, z = .bl b := fun {q z} h => by
    rw [Option.map_eq_some_iff] at h
    obtain ⟨b, _, e⟩ := h
    exact ⟨_, e.symm⟩
  cases o <;> simp only [cmpOf, reduceCtorEq, Option.some.injEq] at h <;> subst h
  · exact ⟨or_eq (hu64 G), by simp, fun x y z h => bb h⟩
  · exact ⟨or_ne (hu64 G), by simp, fun x y z h => bn h⟩
  · refine ⟨or_lt, by simp, fun x y z h => ?_⟩
    cases x <;> cases y <;> simp only [op2, reduceCtorEq, Option.some.injEq] at h <;> exact ⟨_, h.symm⟩
  · refine ⟨or_le, by simp, fun x y z h => ?_⟩
    cases x <;> cases y <;> simp only [op2, reduceCtorEq, Option.some.injEq] at h <;> exact ⟨_, h.symm⟩
  · refine ⟨or_gt, by simp, fun x y z h => ?_⟩
    cases x <;> cases y <;> simp only [op2, reduceCtorEq, Option.some.injEq] at h <;> exact ⟨_, h.symm⟩
  · refine ⟨or_ge, by simp, fun x y z h => ?_⟩
    cases x <;> cases y <;> simp only [op2, reduceCtorEq, Option.some.injEq] at h <;> exact ⟨_, h.symm⟩
  · exact ⟨or_in (hu65 G), by simp, fun x y z h => bb h⟩
  · exact ⟨or_notin (hu65 G), by simp, fun x y z h => bn h⟩
theorem vw_op {o : O2} (h : o ≠ .ix) (k : Bool) (a b : E) : vwE (.op o k a b) = [] := by cases o <;> first | rfl | exact absurd rfl h
theorem kk (a b : List Nat) : (!disj a b) = true ∨ disj a b = true := by cases disj a b <;> simp
end
end Z

set_option Elab.async false
set_option linter.all false
set_option maxRecDepth 100000
namespace Z
open PySem PySem.Spec PyProof.Rows L2

section
variable {P : Nat → Option Fn} {Γ : Gm} {k : Nat} {X : Cx} {N : List Str} {sc : Scope} {pos : Pos} {r : TR}
theorem cmpE_parts {a : Expr} {ops : List CmpOp} {cs : List Expr} {e' : E} (rs : RS P Γ N k r) (hN : X.N = N) (hs : X.env.scope = sc) (G : Gd P Γ k X) (h : cmpE r sc a ops cs = some e') :
    SE P k X (.Compare a ops cs pos) e' ∧ ST P k X (.Compare a ops cs pos) e' := by
  unfold cmpE at h
  split at h
  · rw [Option.map_eq_some_iff] at h
    obtain ⟨a', h1, rfl⟩ := h
    have q := se_isN (j := 0) (p2 := pos) (rs.E sc a a' h1 X hN hs G)
    exact ⟨pe_cmp (se_isN (rs.E sc a a' h1 X hN hs G)) rfl, pt_of (vw := []) (pt_cmp (se_isN (rs.E sc a a' h1 X hN hs G)) rfl) fun _ _ _ h => h⟩
  · rw [Option.map_eq_some_iff] at h
    obtain ⟨a', h1, rfl⟩ := h
    exact ⟨pe_cmp (se_notN (rs.E sc a a' h1 X hN hs G)) rfl, pt_of (vw := []) (pt_cmp (se_notN (rs.E sc a a' h1 X hN hs G)) rfl) fun _ _ _ h => h⟩
  · rename_i o b _ _
    cases hb : isSet b with
    | true => rw [hb] at h; cases h
    | false =>
      rw [hb] at h
      simp only [Bool.false_eq_true, if_false, Option.bind_eq_some_iff, Option.map_eq_some_iff] at h
      obtain ⟨o', h0, a', h1, b', h2, rfl⟩ := h
      obtain ⟨ho, hne, _⟩ := cmpOf_ok G h0
      have ea := rs.E sc a a' h1 X hN hs G
      have eb := rs.E sc b b' h2 X hN hs G
      constructor
      · unfold SE opK
        rw [vw_op hne]
        exact se_cmp (kk _ _) ho ea eb (behind_ok hb)
      · exact st_cmp (kk _ _) ho ea eb (behind_ok hb)
  · rename_i o q b c
    cases hb : isSet b || isSet c with
    | true => rw [hb] at h; cases h
    | false =>
      rw [hb] at h
      simp only [Bool.false_eq_true, if_false, Option.bind_eq_some_iff, Option.map_eq_some_iff] at h
      obtain ⟨o', h0, q', h00, a', h1, b', h2, c', h3, rfl⟩ := h
      obtain ⟨ho, _, hg⟩ := cmpOf_ok G h0
      obtain ⟨hq, _, _⟩ := cmpOf_ok G h00
      rw [Bool.or_eq_false_iff] at hb
      have ea := rs.E sc a a' h1 X hN hs G
      have eb := rs.E sc b b' h2 X hN hs G
      have ec := rs.E sc c c' h3 X hN hs G
      have hm : lastMarks [o, q] [b, c] = false := behind_ok hb.2
      exact ⟨se_chain hg ho hq ea eb ec hm, st_chain hg ho hq ea eb ec hm⟩
  · cases h
theorem slotsOf_ok (hN : X.N = N) (hs : X.env.scope = sc) (hnd : X.N.Nodup) {ok : Str → Bool} (hok : ∀ x, ok x = true → Loc X.env.scope x ∧ (X.fn x = true ∨ X.env.scope.names.lookup x = some .local)) :
    ∀ {es : List Expr} {is : List Nat}, slotsOf N sc es = some is → es.all (fun e => match e with | .Name x _ => ok x | _ => false) = true → PGs X es (gs is) ∧ (assignEach es X.env).length = is.length ∧ (assignEach es X.env).findIdx? (·.1) = none
  | [], is, h, _ => by
    cases h
    exact ⟨pgs_nil, rfl, rfl⟩
  | e :: es, is, h, ha => by
    cases e <;> (try (simp [slotsOf] at h; done))
    rename_i x xp
    simp only [slotsOf, Option.bind_eq_some_iff, Option.map_eq_some_iff] at h
    obtain ⟨i, h1, js, h2, rfl⟩ := h
    rw [List.all_cons, Bool.and_eq_true] at ha
    obtain ⟨q, l, m⟩ := slotsOf_ok hN hs hnd hok h2 ha.2
    obtain ⟨_, _, h3⟩ := slot_some h1
    obtain ⟨o1, o2⟩ := hok x ha.1
    refine ⟨pgs_cons (pg_name hnd (by rw [hN]; exact h3) o1 o2) q, ?_, ?_⟩
    · show (assignEach es X.env).length + 1 = js.length + 1
      rw [l]
    · have e1 : assignEach (.Name x xp :: es) X.env = (false, assign (.Name x xp) X.env) :: assignEach es X.env := rfl
      rw [e1, List.findIdx?_cons, m]
      rfl
theorem trG_ok (hN : X.N = N) (hs : X.env.scope = sc) (hc : X.calm = true) (hnd : X.N.Nodup) {ok : Str → Bool} (hok : ∀ x, ok x = true → Loc X.env.scope x ∧ (X.fn x = true ∨ X.env.scope.names.lookup x = some .local)) {t : Expr} {tg : T}
    (h : trG N sc ok t = some tg) : PG X t (gT X.K tg) := by
  cases t <;> (try (simp [trG] at h; done))
  · rename_i x xp
    simp only [trG] at h
    cases ho : ok x with
    | false => rw [ho] at h; cases h
    | true =>
      rw [ho] at h
      simp only [if_true, Option.map_eq_some_iff] at h
      obtain ⟨i, h1, rfl⟩ := h
      obtain ⟨_, _, h3⟩ := slot_some h1
      obtain ⟨o1, o2⟩ := hok x ho
      exact pg_name hnd (by rw [hN]; exact h3) o1 o2
  · rename_i es kk tp
    simp only [trG] at h
    split at h
    · rename_i ha
      rw [Option.map_eq_some_iff] at h
      obtain ⟨is, h1, rfl⟩ := h
      obtain ⟨q, l, m⟩ := slotsOf_ok hN hs hnd hok h1 ha
      exact pg_tup hc q l m
    · cases h
end
end Z

set_option Elab.async false
set_option linter.all false
set_option maxRecDepth 100000
namespace Z
open PySem PySem.Spec PyProof.Rows L2

section
variable {P : Nat → Option Fn} {Γ : Gm} {k : Nat} {X : Cx} {N : List Str} {sc : Scope} {pos : Pos} {r : TR}
theorem folded_ok {e : Expr} {env : PySem.Env} (h : isSet e = false) : ∀ x, foldedSetIterable e env x = pure x := by
  intro x
  cases e <;> first | rfl | (simp [isSet] at h)
theorem trR_ok (rs : RS P Γ N k r) (hN : X.N = N) (hs : X.env.scope = sc) (G : Gd P Γ k X) {tg it : Expr} {src : Sr} (h : trR r sc it = some src) : PI X tg it (tR X.K (mvR src) (vwR src) (evS (run P k) src)) ∧ isSet it = false := by
  unfold trR at h
  split at h
  · rename_i f p a pos
    split at h
    · rename_i hf
      cases hst : isStar a with
      | true => rw [hst] at h; cases h
      | false =>
        rw [hst] at h
        simp only [Bool.false_eq_true, if_false, Option.map_eq_some_iff] at h
        obtain ⟨a', h1, rfl⟩ := h
        obtain ⟨rfl, hg⟩ := hf
        exact ⟨sr_rng (isGl_gl hg hs) (G.bl _ (by simp [bnames])) (rs.E sc a a' h1 X hN hs G) (star_cons hst), rfl⟩
    · rw [Option.map_eq_some_iff] at h
      obtain ⟨e', h1, rfl⟩ := h
      exact ⟨sr_of (wrap_ok (rs.E sc _ e' h1 X hN hs G)), rfl⟩
  · cases hst : isSet it with
    | true => rw [hst] at h; cases h
    | false =>
      rw [hst] at h
      simp only [Bool.false_eq_true, if_false, Option.map_eq_some_iff] at h
      obtain ⟨e', h1, rfl⟩ := h
      exact ⟨sr_of (wrap_ok (rs.E sc _ e' h1 X hN hs G)), rfl⟩
theorem trC_ok (rs : RS P Γ N k r) (hN : X.N = N) (hs : X.env.scope = sc) (G : Gd P Γ k X) {ifs : List Expr} {cnd : E} (h : trC r sc ifs = some cnd) : PTs X ifs (tT X.K (mvE cnd) (ev (run P k) cnd)) := by
  unfold trC at h
  split at h
  · cases h
    refine ⟨fun pins s σ H Q I q => pts_nil.run pins s σ H Q I ?_⟩
    obtain ⟨F, s', fps, R, q⟩ := q
    exact q H F fps R .refl
  · exact pts_one (rs.T sc _ cnd h X hN hs G)
  · cases h
/-- the parts of a comprehension -/
structure CompOk (P : Nat → Option Fn) (k : Nat) (X : Cx) (elt t it : Expr) (ifs : List Expr) (scope : Scope) (own : List (Str × Nat)) (elt' : E) (tg : T) (src : Sr) (cnd : E) : Prop where
  hi : PI X t it (tR X.K (mvR src) (vwR src) (evS (run P k) src))
  ok : BlkOk X.N X.env.scope scope own
  hg : ∀ (s : Shared) (H : Hp) (C : Addr) (cl : List (Str × Addr)) (fp : List Addr), PG (X.blk s H scope (compEnvC scope cl C X.env) fp) t (gT X.K tg)
  ht : ∀ (s : Shared) (H : Hp) (C : Addr) (cl : List (Str × Addr)) (fp : List Addr), PTs (X.blk s H scope (compEnvC scope cl C X.env) fp) ifs (tT X.K (mvE cnd) (ev (run P k) cnd))
  he : ∀ (s : Shared) (H : Hp) (C : Addr) (cl : List (Str × Addr)) (fp : List Addr), PE (X.blk s H scope (compEnvC scope cl C X.env) fp) elt (tE X.K (mvE elt') [] (ev (run P k) elt'))
  hs : isSet it = false
  hd : disj (vwR src) (minus (tg.sl ++ mvE cnd ++ mvE elt') (own.map (·.2))) = true
  ho : ∀ i ∈ tg.sl, i ∈ own.map (·.2)
theorem comp_parts (rs : RS P Γ N k r) (hN : X.N = N) (hs : X.env.scope = sc) (G : Gd P Γ k X) {elt t it : Expr} {ifs : List Expr} {scope : Scope} {e' : E} (h : stepE Γ N r sc (.ListComp elt [⟨t, it, ifs, 0⟩] scope pos) = some e') :
    ∃ elt' tg src cnd, e' = .comp elt' tg src cnd ((ownOf N scope).map (·.2)) ∧ CompOk P k X elt t it ifs scope (ownOf N scope) elt' tg src cnd := by
  simp only [stepE] at h
  split at h
  · rename_i hb
    have hb := hb.2
    simp only [Option.bind_eq_some_iff] at h
    obtain ⟨src, h1, tg, h2, cnd, h3, elt', h4, h5⟩ := h
    split at h5
    · rename_i hd
      cases h5
      rw [Bool.and_eq_true, List.all_eq_true] at hd
      obtain ⟨q1, q2⟩ := trR_ok (tg := t) rs hN hs G h1
      refine ⟨elt', tg, src, cnd, rfl, q1, by rw [hN, hs]; exact blkOk_by hb, fun s H C cl fp => ?_, fun s H C cl fp => ?_, fun s H C cl fp => ?_, q2, hd.1, fun i hi => by simpa using hd.2 i hi⟩
      · have hsc : (X.blk s H scope (compEnvC scope cl C X.env) fp).env.scope = relS scope sc := by rw [← hs]; rfl
        refine trG_ok (X := X.blk s H scope (compEnvC scope cl C X.env) fp) hN hsc G.calm G.nd (fun x hx => ?_) h2
        rw [Bool.or_eq_true] at hx
        rcases hx with hx | hx
        · have e1 : scope.names.lookup x = some .cell := by simpa using hx
          refine ⟨?_, .inl (by show (scope.names.lookup x == some .cell) = true; rw [e1]; rfl)⟩
          rw [hsc]
          exact .inr (lookup_relS_keep (by decide) e1)
        · have e1 : (relS scope sc).names.lookup x = some .local := by simpa using hx
          refine ⟨?_, .inr (by rw [hsc]; exact e1)⟩
          rw [hsc]
          exact .inl e1
      · have hsc : (X.blk s H scope (compEnvC scope cl C X.env) fp).env.scope = relS scope sc := by rw [← hs]; rfl
        exact trC_ok (X := X.blk s H scope (compEnvC scope cl C X.env) fp) rs hN hsc (G.blk s H scope _ fp) h3
      · have hsc : (X.blk s H scope (compEnvC scope cl C X.env) fp).env.scope = relS scope sc := by rw [← hs]; rfl
        exact trV_ok (X := X.blk s H scope (compEnvC scope cl C X.env) fp) rs hN hsc (G.blk s H scope _ fp) h4
    · cases h5
  · cases h
theorem comp_se (G : Gd P Γ k X) {elt t it : Expr} {ifs : List Expr} {scope : Scope} {own : List (Str × Nat)} {elt' : E} {tg : T} {src : Sr} {cnd : E} (c : CompOk P k X elt t it ifs scope own elt' tg src cnd) :
    SE P k X (.ListComp elt [⟨t, it, ifs, 0⟩] scope pos) (.comp elt' tg src cnd (own.map (·.2))) :=
  pe_imp (pe_lc G.calm G.nd c.hi c.ok c.hg c.ht c.he (folded_ok c.hs)) fun σ H Q h => tE_comp c.hd c.ho h
theorem fnU_ok (G : Gd P Γ k X) {x : Str} {u : U1} (h : fnU x = some u) : ∃ id, CallR X (.builtin id) (r1 (rU X.K (un1 u) false)) ∧ X.mg x = none ∧ bootBuiltins x = some (.builtin id) ∧ x ≠ "__name__" := by
  unfold fnU at h
  split at h
  · rename_i hx; subst hx; cases h
    exact ⟨"len", cu_len, G.bl _ (by simp [bnames]), PySem.boot_len, by decide⟩
  · split at h
    · rename_i hx; subst hx; cases h
      exact ⟨"all", cu_all G.calm, G.bl _ (by simp [bnames]), PyProof.Rows.boot_all, by decide⟩
    · split at h
      · rename_i hx; subst hx; cases h
        exact ⟨"any", cu_any G.calm, G.bl _ (by simp [bnames]), PyProof.Rows.boot_any, by decide⟩
      · cases h
theorem tyU_ok (G : Gd P Γ k X) {x : Str} {u : U1} (h : tyU x = some u) : ∃ T, CallR X (.type T) (r1 (rU X.K (un1 u) false)) ∧ X.mg x = none ∧ bootBuiltins x = some (.type T) ∧ x ≠ "__name__" := by
  unfold tyU at h
  split at h
  · rename_i hx; subst hx; cases h
    exact ⟨"list", cu_list, G.bl _ (by simp [bnames]), PyProof.Rows.boot_list, by decide⟩
  · split at h
    · rename_i hx; subst hx; cases h
      exact ⟨"tuple", cu_tuple, G.bl _ (by simp [bnames]), PyProof.Rows.boot_tuple, by decide⟩
    · split at h
      · rename_i hx; subst hx; cases h
        exact ⟨"int", cu_int, G.bl _ (by simp [bnames]), PyProof.Rows.boot_int, by decide⟩
      · cases h
theorem fn2_ok (G : Gd P Γ k X) {x : Str} {u : O2} (h : fn2 x = some u) : ∃ id, CallR X (.builtin id) (r2 (rO X.K (op2 u) false)) ∧ X.mg x = none ∧ bootBuiltins x = some (.builtin id) ∧ x ≠ "__name__" ∧ u ≠ .ix := by
  unfold fn2 at h
  split at h
  · rename_i hx; subst hx; cases h
    exact ⟨"min", cu_min G.calm, G.bl _ (by simp [bnames]), PyProof.Rows.boot_min, by decide, by simp⟩
  · split at h
    · rename_i hx; subst hx; cases h
      exact ⟨"max", cu_max G.calm, G.bl _ (by simp [bnames]), PyProof.Rows.boot_max, by decide, by simp⟩
    · cases h
theorem isN_ok (G : Gd P Γ k X) {x : Str} {u : U1} (h : isN x = some u) : ∃ T, isU T = some u ∧ X.mg x = none ∧ bootBuiltins x = some (.type T) ∧ x ≠ "__name__" := by
  unfold isN at h
  split at h
  · rename_i hx; subst hx; cases h
    exact ⟨"str", rfl, G.bl _ (by simp [bnames]), by decide +kernel, by decide⟩
  · split at h
    · rename_i hx; subst hx; cases h
      exact ⟨"tuple", rfl, G.bl _ (by simp [bnames]), PyProof.Rows.boot_tuple, by decide⟩
    · split at h
      · rename_i hx; subst hx; cases h
        exact ⟨"list", rfl, G.bl _ (by simp [bnames]), PyProof.Rows.boot_list, by decide⟩
      · split at h
        · rename_i hx; subst hx; cases h
          exact ⟨"bool", rfl, G.bl _ (by simp [bnames]), by decide +kernel, by decide⟩
        · split at h
          · rename_i hx; subst hx; cases h
            exact ⟨"int", rfl, G.bl _ (by simp [bnames]), PyProof.Rows.boot_int, by decide⟩
          · cases h
theorem trEnd_ok (rs : RS P Γ N k r) (hN : X.N = N) (hs : X.env.scope = sc) (G : Gd P Γ k X) {o : Option Expr} {p : Bool × E} (h : trEnd r sc o = some p) : PO X o (tP X.K (mvE p.2) p.1 (ev (run P k) p.2)) := by
  cases o with
  | none =>
    simp only [trEnd, Option.some.injEq] at h
    subst h
    exact sp_none
  | some e =>
    simp only [trEnd, Option.map_eq_some_iff] at h
    obtain ⟨e', h1, rfl⟩ := h
    exact sp_some (rs.E sc e e' h1 X hN hs G)
theorem plain_ix {b : Expr} (h : isSlice b = false) : PlainIx b := by
  intro o i
  cases b <;> first | rfl | (simp [isSlice] at h)
theorem attr_ok {o : Expr} {m : Str} {env : PySem.Env} (h : isCall o = false) : attributeBase o m env (eval o env) = eval o env := by
  cases o <;> first | rfl | (simp [isCall] at h)
theorem call_ok (rs : RS P Γ N k r) (hN : X.N = N) (hs : X.env.scope = sc) (G : Gd P Γ k X) {f : Str} {fp : Pos} {args : List Expr} (hg : isGl sc f = true) (hk : okN f = true) {i : Nat} {ks : List Bool} (hf : Γ.funs.lookup f = some (i, ks)) {p : List (Option Nat) × EL} (h : trA N r sc ks args = some p) :
    SE P k X (.Call (.Name f fp) args [] pos) (.call i p.1 p.2) := by
  obtain ⟨a, fd, ps, h1, h2, h3, h4, h5⟩ := G.fs f i ks hf
  obtain ⟨q1, q2, q3, q4⟩ := trA_ok rs hN hs G h
  unfold SE
  rw [ev_call]
  show PE X _ (tE X.K (mvL p.2 ++ p.1.filterMap id) [] _)
  rw [← q2] at h5
  cases args with
  | nil =>
    have e0 : ks = [] := List.length_eq_zero_iff.mp (by simpa using q3.symm)
    subst e0
    simp only [trA, Option.some.injEq] at h
    subst h
    refine pe_imp (pe_call0 h5 G.room (isGl_gl hg hs) h1 h2 h3 .nil pass0 (okN_d hk).1) fun σ H Q h => ?_
    have q := tK_call (E := E0) h
    obtain ⟨F, s, fps, R, q⟩ := q
    exact q [] H F fps (fun _ => []) R .refl ⟨rfl, rfl, fun j d e _ => by simp at e, fun j i e => by simp at e, fun i j _ a z => (nomatch z), fun _ _ => rfl⟩ fun j a z => nomatch z
  | cons e es =>
    obtain ⟨s1, s2⟩ := q4 e es rfl
    exact pe_imp (pe_call h5 G.room (isGl_gl hg hs) h1 h2 h3 .nil pass0 q1 (okN_d hk).1 s1 (s2 _)) fun σ H Q h => tK_call h
end
end Z

set_option Elab.async false
set_option linter.all false
set_option maxRecDepth 100000
namespace Z
open PySem PySem.Spec PyProof.Rows L2

section
variable {P : Nat → Option Fn} {Γ : Gm} {k : Nat} {X : Cx} {N : List Str} {sc : Scope} {pos : Pos} {r : TR}
theorem ev_mu1 {C : Nat → List D → CR} (m : Mu) (i : Nat) (e : E) : ev C (.mu m i (.cons e .nil)) = fMu1 m i (ev C e) := by
  funext s
  simp only [ev, evL, fMu1]
  cases get s i with
  | none => rfl
  | some d0 =>
    simp only
    split
    · cases ev C e s with
      | ok y s1 => rfl
      | exc x s1 => rfl
      | bad => rfl
    · rfl
theorem muE_ok (rs : RS P Γ N k r) (hN : X.N = N) (hs : X.env.scope = sc) (G : Gd P Γ k X) {m : Str} {o a : Expr} {e' : E} {apos cpos : Pos} (hl : (apos.endLine == cpos.line) = true) (hst : isStar a = false) (h : muE N r sc m o a = some e') :
    SE P k X (.Call (.Attribute o m apos) [a] [] cpos) e' := by
  unfold muE at h
  split at h
  · rename_i x xp
    simp only [Option.bind_eq_some_iff, Option.map_eq_some_iff] at h
    obtain ⟨m', hm, i, hi, a', h1, rfl⟩ := h
    unfold SE
    rw [ev_mu1]
    have hv : PE X a (tE X.K (mvE a') [] (ev (run P k) a')) := trV_ok rs hN hs G h1
    show PE X _ (tE X.K (mvL (.cons a' .nil) ++ [i]) [] _)
    have em : mvL (.cons a' .nil) = mvE a' := by simp [mvL]
    rw [em]
    unfold mu1 at hm
    split at hm
    · rename_i hx
      cases hm
      subst hx
      exact sm_mu1 PySem.F.slot_list_append PySem.F.type_list_append mu_append (pe_slot hN hs hi) hv hl (star_cons hst)
    · cases hm
  · cases h
theorem stepE_ok (rs : RS P Γ N k r) (hN : X.N = N) (hs : X.env.scope = sc) (G : Gd P Γ k X) {e : Expr} {e' : E} (h : stepE Γ N r sc e = some e') : SE P k X e e' := by
  cases e with
  | Name x p =>
    simp only [stepE] at h
    split at h
    · rename_i i hi
      cases h
      exact se_var (pe_slot hN hs hi)
    · split at h
      · rename_i hg
        rw [Bool.and_eq_true] at hg
        rw [Option.map_eq_some_iff] at h
        obtain ⟨d, h1, rfl⟩ := h
        obtain ⟨u, v, q1, q2, q3⟩ := G.cs x d h1
        exact se_c (pe_glob (isGl_gl hg.1 hs) q1 q2 (okN_d hg.2).1) q3
      · cases h
  | Constant c j p =>
    cases c <;> (try (simp [stepE] at h; done))
    · simp only [stepE, Option.some.injEq] at h
      subst h
      exact se_c pe_non fun _ _ => .non
    · simp only [stepE, Option.some.injEq] at h
      subst h
      exact se_c pe_bl fun _ _ => .bl _
    · simp only [stepE, Option.some.injEq] at h
      subst h
      exact se_c pe_int fun _ _ => .int _
    · rename_i x
      simp only [stepE] at h
      split at h
      · rename_i ha
        cases h
        refine se_c pe_str fun F H => ?_
        have q := Rep.str (K := X.K) (F := F) (H := H) x.cps.toList ha
        have e : (⟨x.cps.toList.toArray⟩ : Str) = x := SX.S_tl x
        rw [e] at q
        exact q
      · cases h
  | BinOp a o b p =>
    simp only [stepE, Option.bind_eq_some_iff, Option.map_eq_some_iff] at h
    obtain ⟨o', h0, a', h1, b', h2, rfl⟩ := h
    obtain ⟨ho, hne⟩ := binOf_ok (X := X) h0
    unfold SE opK
    rw [vw_op hne]
    exact se_op (kk _ _) (pe_op ho (wrap_ok (rs.E sc a a' h1 X hN hs G)) (wrap_ok (rs.E sc b b' h2 X hN hs G)))
  | UnaryOp o a p =>
    cases o <;> (try (simp [stepE] at h; done))
    · simp only [stepE, Option.map_eq_some_iff] at h
      obtain ⟨a', h1, rfl⟩ := h
      exact se_not (rs.E sc a a' h1 X hN hs G)
    · simp only [stepE, Option.map_eq_some_iff] at h
      obtain ⟨a', h1, rfl⟩ := h
      exact se_un (x := a) (pe_un un_negZ (rs.E sc a a' h1 X hN hs G))
  | Compare a ops cs p =>
    simp only [stepE] at h
    exact (cmpE_parts rs hN hs G h).1
  | BoolOp o vs p =>
    cases o
    · simp only [stepE] at h
      exact boolL_and rs hN hs G h
    · simp only [stepE] at h
      exact boolL_or rs hN hs G h
  | IfExp c a b p =>
    simp only [stepE, Option.bind_eq_some_iff, Option.map_eq_some_iff] at h
    obtain ⟨c', h0, a', h1, b', h2, rfl⟩ := h
    exact se_ite (rs.T sc c c' h0 X hN hs G) (rs.E sc a a' h1 X hN hs G) (rs.E sc b b' h2 X hN hs G)
  | Tuple es kk p =>
    simp only [stepE] at h
    split at h
    · rename_i hl
      rw [Option.map_eq_some_iff] at h
      obtain ⟨es', h1, rfl⟩ := h
      exact se_tup (trL_ok rs hN hs G h1) fun s ds s' e => by
        rw [trL_len h1 s s' ds e]
        exact Nat.le_trans hl (by decide)
    · cases h
  | List es p =>
    simp only [stepE] at h
    split at h
    · rename_i hl
      rw [Option.map_eq_some_iff] at h
      obtain ⟨es', h1, rfl⟩ := h
      exact se_lst (trL_ok rs hN hs G h1) fun s ds s' e => by
        rw [trL_len h1 s s' ds e]
        exact Nat.le_trans hl (by decide)
    · cases h
  | Subscript a b p =>
    have plain : isSlice b = false → ((r.E sc a).bind fun a' => (r.E sc b).map fun b' => opK .ix a' b') = some e' → SE P k X (.Subscript a b p) e' := fun hb h => by
      simp only [Option.bind_eq_some_iff, Option.map_eq_some_iff] at h
      obtain ⟨a', h1, b', h2, rfl⟩ := h
      exact se_opv (kk _ _) (pe_ix ir_ix (rs.E sc a a' h1 X hN hs G) (rs.E sc b b' h2 X hN hs G) (plain_ix hb))
    cases b with
    | Slice lo hi st p2 =>
      cases st with
      | none =>
        simp only [stepE, Option.bind_eq_some_iff, Option.map_eq_some_iff] at h
        obtain ⟨a', h1, l, h2, u, h3, rfl⟩ := h
        exact se_slc (rs.E sc a a' h1 X hN hs G) (trEnd_ok rs hN hs G h2) (trEnd_ok rs hN hs G h3)
      | some x => simp [stepE, isSlice] at h
    | _ =>
      refine plain rfl ?_
      simpa [stepE, isSlice] using h
  | ListComp elt gens scope p =>
    cases gens with
    | nil => simp [stepE] at h
    | cons g gs =>
      cases gs with
      | cons _ _ => simp [stepE] at h
      | nil =>
        obtain ⟨t, it, ifs, n⟩ := g
        by_cases hn : n = 0
        · subst hn
          obtain ⟨elt', tg, src, cnd, rfl, c⟩ := comp_parts (pos := p) rs hN hs G h
          exact comp_se G c
        · simp only [stepE] at h
          rw [if_neg fun q => hn q.1] at h
          cases h
  | Call f args ks p =>
    cases ks with
    | cons _ _ => cases f <;> simp [stepE] at h
    | nil =>
      cases f with
      | Name f fp =>
        simp only [stepE] at h
        split at h
        · cases h
        · rename_i hgk
          have hg : isGl sc f = true := by
            cases q : isGl sc f with
            | true => rfl
            | false => rw [q] at hgk; simp at hgk
          have hk : okN f = true := by
            cases q : okN f with
            | true => rfl
            | false => rw [q] at hgk; simp at hgk
          split at h
          · rename_i i kks hf
            rw [Option.map_eq_some_iff] at h
            obtain ⟨q, h1, rfl⟩ := h
            exact call_ok rs hN hs G hg hk hf h1
          · split at h
            · rename_i a
              split at h
              · cases h
              · rename_i hst
                have hst : isStar a = false := by simpa using hst
                split at h
                · rename_i u hu
                  rw [Option.map_eq_some_iff] at h
                  obtain ⟨a', h1, rfl⟩ := h
                  obtain ⟨id, c1, c2, c3, c4⟩ := fnU_ok G hu
                  exact sb_fn c1 (isGl_gl hg hs) c2 c3 (rs.E sc a a' h1 X hN hs G) (star_cons hst) c4 (okN_d hk).1
                · simp only [Option.bind_eq_some_iff, Option.map_eq_some_iff] at h
                  obtain ⟨u, hu, a', h1, rfl⟩ := h
                  obtain ⟨id, c1, c2, c3, c4⟩ := tyU_ok G hu
                  exact sb_ty c1 (isGl_gl hg hs) c2 c3 (wrap_ok (rs.E sc a a' h1 X hN hs G)) (star_cons hst) c4 (okN_d hk).1
            · rename_i a b
              split at h
              · cases h
              · rename_i hst
                have hst : isStar a = false ∧ isStar b = false := by simpa using hst
                split at h
                · rename_i o ho
                  simp only [Option.bind_eq_some_iff, Option.map_eq_some_iff] at h
                  obtain ⟨a', h1, b', h2, rfl⟩ := h
                  obtain ⟨id, c1, c2, c3, c4, c5⟩ := fn2_ok G ho
                  unfold SE opK
                  rw [vw_op c5]
                  exact sb_fn2 c1 (isGl_gl hg hs) c2 c3 (kk _ _) (rs.E sc a a' h1 X hN hs G) (rs.E sc b b' h2 X hN hs G) (star_cons hst.1) (star_cons hst.2) c4 (okN_d hk).1
                · split at h
                  · rename_i hf
                    split at h
                    · rename_i y yp
                      split at h
                      · rename_i hy
                        rw [Bool.and_eq_true] at hy
                        simp only [Option.bind_eq_some_iff, Option.map_eq_some_iff] at h
                        obtain ⟨u, hu, a', h1, rfl⟩ := h
                        obtain ⟨T, c1, c2, c3, c4⟩ := isN_ok G hu
                        exact sb_isi c1 hf (isGl_gl hg hs) (by rw [hf]; exact G.bl _ (by simp [bnames])) (isGl_gl hy.1 hs) c2 c3 c4 (okN_d hy.2).1 (rs.E sc a a' h1 X hN hs G) (star_cons hst.1)
                      · cases h
                    · cases h
                  · cases h
            · cases h
      | Attribute o m apos =>
        simp only [stepE] at h
        split at h
        · cases h
        · rename_i hcl
          have hc : isCall o = false := by
            cases q : isCall o with
            | false => rfl
            | true => rw [q] at hcl; simp at hcl
          have hl : (apos.endLine == p.line) = true := by
            cases q : (apos.endLine == p.line) with
            | true => rfl
            | false => rw [q] at hcl; simp at hcl
          split at h
          · split at h
            · rename_i hm
              subst hm
              rw [Option.map_eq_some_iff] at h
              obtain ⟨a', h1, rfl⟩ := h
              exact sm_m0 upper_str PySem.F.plainAttrs_str PySem.F.slot_str_upper PySem.F.type_str_upper mu_upper (rs.E sc o a' h1 X hN hs G) (attr_ok hc) hl
            · cases h
          · rename_i a
            split at h
            · cases h
            · rename_i hst
              have hst : isStar a = false := by simpa using hst
              split at h
              · rename_i hm
                subst hm
                simp only [Option.bind_eq_some_iff, Option.map_eq_some_iff] at h
                obtain ⟨a', h1, b', h2, rfl⟩ := h
                exact sm_m1 split_str PySem.F.plainAttrs_str PySem.F.slot_str_split PySem.F.type_str_split mu_split (kk _ _) (rs.E sc o a' h1 X hN hs G) (rs.E sc a b' h2 X hN hs G) (attr_ok hc) hl (star_cons hst)
              · split at h
                · rename_i hm
                  subst hm
                  simp only [Option.bind_eq_some_iff, Option.map_eq_some_iff] at h
                  obtain ⟨a', h1, b', h2, rfl⟩ := h
                  exact sm_m1 join_str PySem.F.plainAttrs_str PySem.F.slot_str_join PySem.F.type_str_join mu_join (kk _ _) (rs.E sc o a' h1 X hN hs G) (rs.E sc a b' h2 X hN hs G) (attr_ok hc) hl (star_cons hst)
                · exact muE_ok rs hN hs G hl hst h
          · cases h
      | _ => simp [stepE] at h
  | _ => simp [stepE] at h
theorem stepT_ok (rs : RS P Γ N k r) (hN : X.N = N) (hs : X.env.scope = sc) (G : Gd P Γ k X) {e : Expr} {e' : E} (h : stepT r sc e = some e') : ST P k X e e' := by
  cases e with
  | UnaryOp o a p =>
    cases o <;> (try (simp [stepT] at h; done))
    simp only [stepT, Option.map_eq_some_iff] at h
    obtain ⟨a', h1, rfl⟩ := h
    exact st_not (rs.T sc a a' h1 X hN hs G)
  | BoolOp o vs p =>
    cases o
    · simp only [stepT] at h
      exact (boolT_and rs hN hs G h).pt
    · simp only [stepT] at h
      exact (boolT_or rs hN hs G h).pt
  | Compare a ops cs p =>
    simp only [stepT] at h
    exact (cmpE_parts rs hN hs G h).2
  | Name x p => exact st_val (rs.E sc _ e' h X hN hs G) fun _ => rfl
  | Constant c j p => exact st_val (rs.E sc _ e' h X hN hs G) fun _ => rfl
  | Call f as ks p => exact st_val (rs.E sc _ e' h X hN hs G) fun _ => rfl
  | Subscript a b p => exact st_val (rs.E sc _ e' h X hN hs G) fun _ => rfl
  | _ => simp [stepT] at h
theorem tr_ok (P : Nat → Option Fn) (Γ : Gm) (N : List Str) (k : Nat) : ∀ n : Nat, RS P Γ N k (tr Γ N n)
  | 0 => ⟨fun _ _ _ h => by simp [tr] at h, fun _ _ _ h => by simp [tr] at h⟩
  | n + 1 => ⟨fun sc e e' h X hN hs G => stepE_ok (tr_ok P Γ N k n) hN hs G h, fun sc e e' h X hN hs G => stepT_ok (tr_ok P Γ N k n) hN hs G h⟩
end
end Z

set_option Elab.async false
set_option linter.all false
set_option maxRecDepth 100000
namespace Z
open PySem PySem.Spec PyProof.Rows L2

/-! ### statements from the text -/
def isDoc : Expr → Bool
  | .Constant (.str _) _ _ => true
  | _ => false
def okL (sc : Scope) (x : Str) : Bool := match sc.names.lookup x with
  | some .local => true
  | some .cell => true
  | _ => false
def swapB (sc : Scope) (t : Str) (tp : Pos) (scope : Scope) (vp : Pos) : Bool := sc.names.lookup t == some .local && tp.line == vp.line && !(scope.names.any fun p => p.1 == t && (p.2 == .local || p.2 == .cell))
def augOf : Operator → Option O2
  | .Add => some .add
  | .Sub => some .sub
  | _ => none
section
variable (Γ : Gm) (N : List Str)
def trB (f : Stmt → Option S) : List Stmt → Option S
  | [] => some .skip
  | [s] => f s
  | s :: rest => (f s).bind fun a => (trB f rest).map fun b => .seq a b
def retE (r : TR) (sc : Scope) (e : Expr) : Option E := match r.E sc e with
  | some (.v i) => some (.mov i)
  | _ => trV r sc e
def trS (r : TR) (sc : Scope) : Nat → Stmt → Option S
  | 0, _ => none
  | n + 1, st => match st with
    | .Expr e _ => if isDoc e then some .skip else if isComp e then none else (r.E sc e).map .ex
    | .Assign [.Name x xp] e p => if okL sc x then (slot N sc x).bind fun i => match e with
        | .ListComp elt gs scope cp => if swapB sc x xp scope cp then (r.E sc (.ListComp elt gs scope cp)).map fun e' => .asg i e' else (trV r sc (.ListComp elt gs scope cp)).map fun e' => .asg i e'
        | e => if isComp e then none else (trV r sc e).map fun e' => .asg i e'
      else none
    | .Assign [.Tuple es kk tp] e _ => if isComp e || isTupE e then none else (trG N sc (okL sc) (.Tuple es kk tp)).bind fun tg => match tg with
        | .tp is => (trV r sc e).map fun e' => .unp is e'
        | _ => none
    | .Assign [.Subscript (.Name x _) k _] e _ => if isComp e || isSlice k then none else (slot N sc x).bind fun i => (r.E sc k).bind fun k' => (trV r sc e).map fun e' => .st i k' e'
    | .AugAssign (.Name x _) o e _ => if okL sc x then (slot N sc x).bind fun i => (augOf o).bind fun o' => (r.E sc e).map fun e' => .aug i o' e' else none
    | .Return (some e) _ => (retE r sc e).map .ret
    | .Return none _ => some (.ret (.c .non))
    | .If c a b _ => (r.T sc c).bind fun c' => (trB (trS r sc n) a).bind fun a' => (trB (trS r sc n) b).map fun b' => .ite c' a' b'
    | .While c a [] _ => (r.T sc c).bind fun c' => (trB (trS r sc n) a).map fun a' => .wh c' a'
    | .For t it a [] _ => (trR r sc it).bind fun src => (trG N sc (okL sc) t).bind fun tg => (trB (trS r sc n) a).bind fun a' => if disj (vwR src) (mvS a' ++ tg.sl) then some (.for tg src a') else none
    | .Break _ => some .brk
    | .Continue _ => some .cnt
    | .Pass _ => some .skip
    | _ => none
end
section
variable {P : Nat → Option Fn} {Γ : Gm} {k : Nat} {X : Cx} {N : List Str} {sc : Scope} {pos : Pos} {r : TR}
def SS (P : Nat → Option Fn) (k : Nat) (X : Cx) (st : Stmt) (s : S) : Prop := PS X st (tS X.K (mvS s) (asS s) (exec (run P k) s))
def SB (P : Nat → Option Fn) (k : Nat) (X : Cx) (st : List Stmt) (s : S) : Prop := PSs X st (tS X.K (mvS s) (asS s) (exec (run P k) s))
theorem trB_ok {f : Stmt → Option S} (hf : ∀ st s, f st = some s → SS P k X st s) : ∀ {sts : List Stmt} {s : S}, trB f sts = some s → SB P k X sts s
  | [], s, h => by
    cases h
    exact sss_nil
  | [st], s, h => sss_one (hf st s h)
  | st :: st2 :: rest, s, h => by
    simp only [trB, Option.bind_eq_some_iff, Option.map_eq_some_iff] at h
    obtain ⟨a, h1, b, h2, rfl⟩ := h
    exact sss_cons (hf st a h1) (trB_ok hf h2)
theorem okL_loc {x : Str} (h : okL sc x = true) (hs : X.env.scope = sc) : Loc X.env.scope x := by
  unfold okL at h
  rw [hs]
  cases e : sc.names.lookup x with
  | none => rw [e] at h; cases h
  | some w => cases w <;> rw [e] at h <;> first | exact .inl e | exact .inr e | cases h
theorem swaps_no {e : Expr} {t : Option Expr} {l : Nat} {env : PySem.Env} (h : isComp e = false) : swapsWith e t l env = pure false := by
  cases e <;> first | rfl | (simp [isComp] at h)
theorem swaps_tup {e t : Expr} {l : Nat} {env : PySem.Env} (h : isComp e = false) : swapsWithSole [t] e l env = pure false := swaps_no h
theorem stores_no {e : Expr} {es : List Expr} {kk : Nat} {tp : Pos} {env : PySem.Env} (h : isTupE e = false) : swappedStores [.Tuple es kk tp] e env = pure none := by
  cases e <;> first | rfl | (simp [isTupE] at h)
theorem augOf_ok {o : Operator} {o' : O2} (h : augOf o = some o') : PIp X o (rAug X.K o') := by
  cases o <;> simp only [augOf, reduceCtorEq, Option.some.injEq] at h <;> subst h
  · exact ip_addZ
  · exact ip_subZ
theorem retE_ok (rs : RS P Γ N k r) (hN : X.N = N) (hs : X.env.scope = sc) (G : Gd P Γ k X) {e : Expr} {e' : E} (h : retE r sc e = some e') : PE X e (tE X.K (mvE e') [] (ev (run P k) e')) := by
  unfold retE at h
  split at h
  · rename_i i hi
    cases h
    exact se_movv (rs.E sc e _ hi X hN hs G)
  · exact trV_ok rs hN hs G h
theorem swap_yes {elt : Expr} {gs : List Comprehension} {scope : Scope} {cp xp : Pos} {x : Str} {l : Nat} {env : PySem.Env} (hk : env.scope.kind = .function) (h : swapB env.scope x xp scope cp = true) : swapsWith (.ListComp elt gs scope cp) (some (.Name x xp)) l env = pure true := by
  unfold swapB at h
  rw [Bool.and_eq_true, Bool.and_eq_true] at h
  refine sw_true hk (by simpa using h.1.1) h.1.2 ?_
  simpa using h.2
theorem swap_not {elt : Expr} {gs : List Comprehension} {scope : Scope} {cp xp : Pos} {x : Str} {l : Nat} {env : PySem.Env} (hk : env.scope.kind = .function) (h : swapB env.scope x xp scope cp = false) : swapsWith (.ListComp elt gs scope cp) (some (.Name x xp)) l env = pure false := by
  have hb : env.blockKind = .function := by unfold Env.blockKind; rw [hk]; rfl
  unfold swapB at h
  unfold swapsWith
  simp only [hb, Env.kindOf, Expr.pos]
  congr 1
/-- comprehensions by their parts -/
def RL (P : Nat → Option Fn) (Γ : Gm) (N : List Str) (k : Nat) (r : TR) : Prop := ∀ sc elt gs scope pos e', r.E sc (.ListComp elt gs scope pos) = some e' → ∀ X : Cx, X.N = N → X.env.scope = sc → Gd P Γ k X →
  ∃ t it ifs elt' tg src cnd, gs = [⟨t, it, ifs, 0⟩] ∧ e' = .comp elt' tg src cnd ((ownOf N scope).map (·.2)) ∧ CompOk P k X elt t it ifs scope (ownOf N scope) elt' tg src cnd
theorem tr_rl (P : Nat → Option Fn) (Γ : Gm) (N : List Str) (k : Nat) : ∀ n : Nat, RL P Γ N k (tr Γ N n)
  | 0 => fun _ _ _ _ _ _ h => by simp [tr] at h
  | n + 1 => fun sc elt gs scope pos e' h X hN hs G => by
    have h : stepE Γ N (tr Γ N n) sc (.ListComp elt gs scope pos) = some e' := h
    cases gs with
    | nil => simp [stepE] at h
    | cons g gs =>
      cases gs with
      | cons _ _ => simp [stepE] at h
      | nil =>
        obtain ⟨t, it, ifs, m⟩ := g
        by_cases hn : m = 0
        · subst hn
          obtain ⟨elt', tg, src, cnd, e, c⟩ := comp_parts (pos := pos) (tr_ok P Γ N k n) hN hs G h
          exact ⟨t, it, ifs, elt', tg, src, cnd, rfl, e, c⟩
        · simp only [stepE] at h
          rw [if_neg fun q => hn q.1] at h
          cases h
theorem trS_ok (rl : RL P Γ N k r) (rs : RS P Γ N k r) (hN : X.N = N) (hs : X.env.scope = sc) (hk : sc.kind = .function) (hfn : ∀ x, X.fn x = true) (G : Gd P Γ k X) : ∀ (n : Nat) {st : Stmt} {s : S}, trS N r sc n st = some s → SS P k X st s
  | 0, _, _, h => by simp [trS] at h
  | n + 1, st, s, h => by
    have ih : ∀ st s, trS N r sc n st = some s → SS P k X st s := fun st s h => trS_ok rl rs hN hs hk hfn G n h
    have hok : ∀ x, okL sc x = true → Loc X.env.scope x ∧ (X.fn x = true ∨ X.env.scope.names.lookup x = some .local) := fun x hx => ⟨okL_loc hx hs, .inl (hfn x)⟩
    unfold trS at h
    split at h
    · rename_i e p
      split at h
      · rename_i hd
        cases h
        cases e <;> (try (simp [isDoc] at hd; done))
        rename_i c j p2
        cases c <;> (try (simp [isDoc] at hd; done))
        exact ss_skip ps_doc
      · split at h
        · cases h
        · rename_i hc
          have hc : isComp e = false := by simpa using hc
          rw [Option.map_eq_some_iff] at h
          obtain ⟨e', h1, rfl⟩ := h
          exact ss_ex (ps_expr (rs.E sc e e' h1 X hN hs G) (swaps_no hc))
    · rename_i x xp e p
      split at h
      · rename_i hx
        obtain ⟨o1, o2⟩ := hok x hx
        simp only [Option.bind_eq_some_iff] at h
        obtain ⟨i, hi, h⟩ := h
        obtain ⟨_, _, h3⟩ := slot_some hi
        have plain : ∀ {e : Expr} {e' : E}, trV r sc e = some e' → swapsWith e (some (.Name x xp)) p.line X.env = pure false → SS P k X (.Assign [.Name x xp] e p) (.asg i e') := fun {e e'} h hw =>
          ss_asg (ps_set G.nd (by rw [hN]; exact h3) o1 (trV_ok rs hN hs G h) hw o2)
        split at h
        · rename_i elt gs scope cp
          split at h
          · rename_i hsw
            rw [Option.map_eq_some_iff] at h
            obtain ⟨e', h1, rfl⟩ := h
            obtain ⟨t, it, ifs, elt', tg, src, cnd, rfl, rfl, c⟩ := rl sc elt gs scope cp e' h1 X hN hs G
            have hloc : X.env.scope.names.lookup x = some .local := by
              unfold swapB at hsw
              rw [Bool.and_eq_true, Bool.and_eq_true] at hsw
              rw [hs]
              simpa using hsw.1.1
            refine ss_asg (ps_imp (ps_setLc G.calm G.nd (by rw [hN]; exact h3) hloc (swap_yes (by rw [hs]; exact hk) (by rw [hs]; exact hsw)) c.hi c.ok c.hg c.ht c.he (folded_ok c.hs)) fun D σ H h => ?_)
            exact tE_comp c.hd c.ho h
          · rename_i hsw
            rw [Option.map_eq_some_iff] at h
            obtain ⟨e', h1, rfl⟩ := h
            refine plain h1 (swap_not (by rw [hs]; exact hk) ?_)
            rw [hs]
            simpa using hsw
        · split at h
          · cases h
          · rename_i hc
            rw [Option.map_eq_some_iff] at h
            obtain ⟨e', h1, rfl⟩ := h
            exact plain h1 (swaps_no (by simpa using hc))
      · cases h
    · rename_i es kk tp e p
      split at h
      · cases h
      · rename_i hc
        have hc : isComp e = false ∧ isTupE e = false := by simpa using hc
        simp only [Option.bind_eq_some_iff] at h
        obtain ⟨tg, h1, h2⟩ := h
        split at h2
        · rename_i is
          rw [Option.map_eq_some_iff] at h2
          obtain ⟨e', h3, rfl⟩ := h2
          exact ss_unp (ps_asg (trV_ok rs hN hs G h3) (trG_ok hN hs G.calm G.nd hok h1) (swaps_tup hc.1) (stores_no hc.2))
        · cases h2
    · rename_i x xp kx sp e p
      split at h
      · cases h
      · rename_i hc
        have hc : isComp e = false ∧ isSlice kx = false := by simpa using hc
        simp only [Option.bind_eq_some_iff, Option.map_eq_some_iff] at h
        obtain ⟨i, h1, k', h2, e', h3, rfl⟩ := h
        refine ss_st (trV_ok rs hN hs G h3) (pg_sub (pe_slot hN hs h1) (rs.E sc kx k' h2 X hN hs G) set_st ?_) (swaps_tup hc.1) rfl
        intro v
        cases kx <;> first | rfl | (simp [isSlice] at hc)
    · rename_i x xp o e p
      split at h
      · rename_i hx
        obtain ⟨o1, o2⟩ := hok x hx
        simp only [Option.bind_eq_some_iff, Option.map_eq_some_iff] at h
        obtain ⟨i, h1, o', h2, e', h3, rfl⟩ := h
        obtain ⟨_, _, h4⟩ := slot_some h1
        exact ss_aug (ps_aug G.nd (by rw [hN]; exact h4) o1 (rs.E sc e e' h3 X hN hs G) (augOf_ok h2) o2)
      · cases h
    · rename_i e p
      rw [Option.map_eq_some_iff] at h
      obtain ⟨e', h1, rfl⟩ := h
      exact ss_ret (retE_ok rs hN hs G h1)
    · cases h
      refine ps_imp ps_retN fun D σ H h => ?_
      obtain ⟨F, s, fps, R, h⟩ := h
      exact h .non σ H F fps [] R .refl .refl ⟨.non, fun a ha => nomatch ha⟩
    · rename_i c a b p
      simp only [Option.bind_eq_some_iff, Option.map_eq_some_iff] at h
      obtain ⟨c', h1, a', h2, b', h3, rfl⟩ := h
      exact ss_if (rs.T sc c c' h1 X hN hs G) (trB_ok (ih) h2) (trB_ok (ih) h3)
    · rename_i c a p
      simp only [Option.bind_eq_some_iff, Option.map_eq_some_iff] at h
      obtain ⟨c', h1, a', h2, rfl⟩ := h
      exact ss_while G.hp (rs.T sc c c' h1 X hN hs G) (trB_ok (ih) h2)
    · rename_i t it a p
      simp only [Option.bind_eq_some_iff] at h
      obtain ⟨src, h1, tg, h2, a', h3, h4⟩ := h
      split at h4
      · rename_i hd
        cases h4
        obtain ⟨q1, q2⟩ := trR_ok (tg := t) rs hN hs G h1
        exact ss_for G.hp G.calm q1 (trG_ok hN hs G.calm G.nd hok h2) (trB_ok (ih) h3) (folded_ok q2) hd
      · cases h4
    · cases h; exact ss_brk
    · cases h; exact ss_cnt
    · cases h; exact ss_skip ps_pass
    · cases h
end
end Z

set_option Elab.async false
set_option linter.all false
set_option maxRecDepth 100000
namespace Z
open PySem PySem.Spec PyProof.Rows L2

/-! ### defs -/
theorem mask_get : ∀ {ks : List Bool} {j i : Nat} {s : Env} {d : D}, get (mask ks j s) i = some d → ks[i]? = some true ∧ get s (j + i) = some d
  | [], j, i, s, d, h => by
    unfold get at h
    simp [mask] at h
  | true :: ks, j, 0, s, d, h => ⟨rfl, h⟩
  | false :: ks, j, 0, s, d, h => by
    unfold get at h
    simp [mask] at h
  | true :: ks, j, i + 1, s, d, h => by
    have h : get (mask ks (j + 1) s) i = some d := h
    obtain ⟨a, b⟩ := mask_get h
    exact ⟨a, by rw [← b]; congr 1; omega⟩
  | false :: ks, j, i + 1, s, d, h => by
    have h : get (mask ks (j + 1) s) i = some d := h
    obtain ⟨a, b⟩ := mask_get h
    exact ⟨a, by rw [← b]; congr 1; omega⟩
theorem mask_none : ∀ {ks : List Bool} {j i : Nat} {s : Env}, get (mask ks j s) i = none → ks[i]? = some true → get s (j + i) = none
  | [], j, i, s, h, e => by simp at e
  | true :: ks, j, 0, s, h, e => h
  | false :: ks, j, 0, s, h, e => by simp at e
  | true :: ks, j, i + 1, s, h, e => by
    have h : get (mask ks (j + 1) s) i = none := h
    have q := mask_none h e
    rw [← q]; congr 1; omega
  | false :: ks, j, i + 1, s, h, e => by
    have h : get (mask ks (j + 1) s) i = none := h
    have q := mask_none h e
    rw [← q]; congr 1; omega
theorem mask_len : ∀ {ks : List Bool} {j : Nat} {s : Env}, (mask ks j s).length = ks.length
  | [], _, _ => rfl
  | true :: ks, j, s => by simp [mask, mask_len (ks := ks)]
  | false :: ks, j, s => by simp [mask, mask_len (ks := ks)]
/-- no slot handed in and out is bound anew -/
def noAs (ks : List Bool) (as : List Nat) : Bool := as.all fun i => !(ks[i]? == some true)
theorem noAs_not {ks : List Bool} {as : List Nat} (h : noAs ks as = true) {i : Nat} (hi : ks[i]? = some true) : i ∉ as := fun z => by
  have q := List.all_eq_true.mp h i z
  rw [hi] at q
  simp at q
section
variable {K : PySem.W.Frag} {F H F' H' : Hp} {σ' : L2.St} {s' : Env} {fps fps' : Fps} {ds : List D} {vs : List V} {N : List Str} {ks : List Bool} {mv as : List Nat} {v : V} {d : D} {fp : List Addr}
theorem get_pad (ds : List D) (n i : Nat) : get (ds.map some ++ List.replicate n none) i = get (ds.map some) i := by
  unfold get
  rw [List.getD_eq_getElem?_getD, List.getD_eq_getElem?_getD]
  by_cases hi : i < ds.length
  · rw [List.getElem?_append_left (by simpa using hi)]
  · rw [List.getElem?_append_right (by simpa using hi), List.getElem?_eq_none (l := ds.map some) (by simpa using hi), List.getElem?_replicate]
    split <;> rfl
theorem rel_start (R : Rel K F H (vs.map some) (ds.map some) fps) (n : Nat) : Rel K F H (L2.start N vs) (ds.map some ++ List.replicate (N.length - ds.length) none) fps := by
  have hl : ds.length = vs.length := by simpa using R.len
  refine ⟨R.sub, ?_, fun i d e => ?_, fun i e => ?_, R.dis⟩
  · unfold L2.start
    simp [hl]
  · rw [get_pad] at e
    obtain ⟨v, h1, h2⟩ := R.rep i d e
    refine ⟨v, ?_, h2⟩
    have hi : i < (vs.map some).length := (List.getElem?_eq_some_iff.mp h1).1
    unfold L2.start
    rw [List.getElem?_append_left hi]
    exact h1
  · rw [get_pad] at e
    exact R.nil i e
def mfps (ks : List Bool) (fps' : Fps) : Fps := fun j => if ks[j]? = some true then fps' j else []
theorem rel_end (hl : ks.length = vs.length) (hn : noAs ks as = true) (R' : Rel K F' H' σ' s' fps') (k : Kp as (L2.start N vs) σ') : Rel K F' H' (vs.map some) (mask ks 0 s') (mfps ks fps') := by
  refine ⟨R'.sub, by rw [mask_len, hl, List.length_map], fun i d e => ?_, fun i e => ?_, fun i j hij a ha => ?_⟩
  · obtain ⟨h1, h2⟩ := mask_get e
    rw [Nat.zero_add] at h2
    obtain ⟨v, h3, h4⟩ := R'.rep i d h2
    refine ⟨v, ?_, by unfold mfps; rw [if_pos h1]; exact h4⟩
    rw [k i (noAs_not hn h1)] at h3
    have hi : i < (vs.map some).length := by
      rw [List.length_map, ← hl]
      exact (List.getElem?_eq_some_iff.mp h1).1
    unfold L2.start at h3
    rw [List.getElem?_append_left hi] at h3
    exact h3
  · unfold mfps
    by_cases q : ks[i]? = some true
    · rw [if_pos q]
      have z := mask_none e q
      rw [Nat.zero_add] at z
      exact R'.nil i z
    · rw [if_neg q]
  · unfold mfps at ha ⊢
    by_cases q : ks[i]? = some true
    · rw [if_pos q] at ha
      by_cases q2 : ks[j]? = some true
      · rw [if_pos q2]
        exact R'.dis i j hij a ha
      · rw [if_neg q2]
        exact fun z => nomatch z
    · rw [if_neg q] at ha
      cases ha
theorem nil_past (R : Rel K F H (vs.map some) (ds.map some) fps) {j : Nat} (hj : ¬ j < vs.length) : fps j = [] := by
  refine R.nil j ?_
  unfold get
  have hl : ds.length = vs.length := by simpa using R.len
  rw [List.getD_eq_getElem?_getD, List.getElem?_eq_none (by simp; omega)]
  rfl
theorem in_past (R : Rel K F H (vs.map some) (ds.map some) fps) {j : Nat} {a : Addr} (ha : a ∈ fps j) : j < vs.length := by
  by_cases hj : j < vs.length
  · exact hj
  · rw [nil_past R hj] at ha
    cases ha
theorem stp_end {env : Env} (hl : ks.length = vs.length) (R : Rel K F H (vs.map some) (ds.map some) fps) (st : Stp mv F H env fps F' H' s' fps') : Stp (List.range ks.length) F H (ds.map some) fps F' H' (mask ks 0 s') (mfps ks fps') := by
  have inn : ∀ {j : Nat} {a : Addr}, a ∈ fps j → j ∈ List.range ks.length := fun ha => List.mem_range.mpr (by rw [hl]; exact in_past R ha)
  have hdl : ds.length = vs.length := by simpa using R.len
  refine ⟨st.f, fun a o e k => st.h a o e fun j _ z => k j (inn z) z, fun a e => ?_, fun j hj a ha => ?_, fun j hj => ?_, st.d⟩
  · rcases st.nf a e with q | q | ⟨j, _, q⟩
    · exact .inl q
    · exact .inr (.inl q)
    · exact .inr (.inr ⟨j, inn q, q⟩)
  · unfold mfps at ha
    by_cases q : ks[j]? = some true
    · rw [if_pos q] at ha
      rcases st.back ha with q | ⟨i, _, q⟩ | ⟨_, q⟩
      · exact .inl q
      · exact .inr ⟨i, inn q, q⟩
      · exact .inr ⟨j, hj, q⟩
    · rw [if_neg q] at ha
      cases ha
  · have hj : ¬ j < ks.length := fun z => hj (List.mem_range.mpr z)
    have e1 : ks[j]? = none := List.getElem?_eq_none (by omega)
    constructor
    · unfold get
      rw [List.getD_eq_getElem?_getD, List.getD_eq_getElem?_getD, List.getElem?_eq_none (by rw [mask_len]; omega), List.getElem?_eq_none (by rw [List.length_map]; omega)]
    · unfold mfps
      rw [e1, if_neg (by simp), nil_past R (by omega)]
theorem res_end (hl : ks.length = vs.length) (R : Rel K F H (vs.map some) (ds.map some) fps) (r : Res K mv [] H fps F' H' fps' v d fp) : Res K (List.range ks.length) [] H fps F' H' (mfps ks fps') v d fp := ⟨r.rep, fun a ha => by
  rcases r.fr a ha with ⟨j, hj, _⟩ | ⟨q, w⟩
  · cases hj
  · refine .inr ⟨fun j z => ?_, ?_⟩
    · unfold mfps at z
      by_cases q2 : ks[j]? = some true
      · rw [if_pos q2] at z
        exact q j z
      · rw [if_neg q2] at z
        cases z
    · rcases w with w | ⟨j, _, w⟩
      · exact .inl w
      · exact .inr ⟨j, List.mem_range.mpr (by rw [hl]; exact in_past R w), w⟩⟩
end
/-- the table has f at i -/
class Has (P : Nat → Option Fn) (i : Nat) (f : Fn) : Prop where
  eq : P i = some f
/-- what the globals say -/
structure Wd (P : Nat → Option Fn) (Γ : Gm) (k : Nat) (p : Program) (w : World) (K : PySem.W.Frag) (mg : Str → Option Value) (base : Heap) : Prop where
  cs : ∀ x d, Γ.consts.lookup x = some d → ∃ u v, mg x = some u ∧ RelV v u ∧ ∀ F H, Rep K F H v d []
  bl : ∀ x ∈ bnames, mg x = none
  fs : ∀ x f ks, Γ.funs.lookup x = some (f, ks) → ∃ a fd ps, mg x = some (.ref a) ∧ PySem.W.keepIn K (.ref a) = true ∧ Binds K fd ps [] ∧ ps.length = ks.length ∧ FnOk p w K mg base CX0 k a fd ps (spF K ks.length (run P k f))
/-- a def of the text: its statement, names, parameters, kinds -/
structure Ent where
  ix : Nat
  x : Str
  st : Stmt
  N : List Str
  ps : List Str
  ks : List Bool
  body : S
structure EntOk (Γ : Gm) (e : Ent) : Prop where
  sc : FnScope e.N e.ps (defScope e.st)
  tr : trB (trS e.N (tr Γ e.N 40) (defScope e.st) 40) (defBody e.st) = some e.body
  ln : e.ks.length = e.ps.length
  na : noAs e.ks (asS e.body) = true
section
variable {P : Nat → Option Fn} {Γ : Gm} {k : Nat} {p : Program} {w : World} {K : PySem.W.Frag} {mg : Str → Option Value} {base : Heap}
theorem fn_zero {f : Nat} {a : Addr} {fd : FuncData} {ps : List Str} {ks : List Bool} (hl : ks.length = ps.length) : FnOk p w K mg base CX0 0 a fd ps (spF K ks.length (run P 0 f)) := by
  refine ⟨fun vs H Q E h => h.1.trans hl, fun A outer s H args us vs Q E hr e0 hb hv h => ?_⟩
  obtain ⟨_, F, ds, fps, R, h⟩ := h
  exact h.elim
theorem fn_succ {e : Ent} {fi : Nat} {a : Addr} {fd : FuncData} (W : Wd P Γ k p w K mg base) (eo : EntOk Γ e) (hP : P fi = some ⟨e.ks, e.N.length, e.body⟩) (F : Fun K e.x e.x e.st a fd) :
    FnOk p w K mg base CX0 (k + 1) a fd e.ps (spF K e.ks.length (run P (k + 1) fi)) := by
  refine F.ok eo.sc (fun vs H Q E h => h.1.trans eo.ln) (fun cdv A outer s H vs Q E hr h => ?_)
  obtain ⟨hlen, F0, ds, fps, R, h⟩ := h
  have hdl : ds.length = vs.length := by simpa using R.len
  have G : Gd P Γ k (cxOf CX0 p w K mg base e.N e.x (defScope e.st) a cdv A outer s H E).nox := ⟨rfl, eo.sc.nd, PassesOwn.never, hr, W.cs, W.bl, W.fs⟩
  have B := trB_ok (fun st s' hs' => trS_ok (X := (cxOf CX0 p w K mg base e.N e.x (defScope e.st) a cdv A outer s H E).nox) (sc := defScope e.st) (tr_rl P Γ e.N k 40) (tr_ok P Γ e.N k 40) rfl rfl eo.sc.kind (fun _ => rfl) G 40 hs') eo.tr
  refine ⟨_, B, F0, _, fps, rel_start (N := e.N) R 0, ?_⟩
  unfold run at h
  rw [hP] at h
  try dsimp only at h
  rw [if_pos (by rw [hdl]; exact hlen)] at h
  have hl : e.ks.length = vs.length := hlen.symm
  cases eo2 : exec (run P k) e.body (ds.map some ++ List.replicate (e.N.length - ds.length) none) with
  | nxt s' =>
    rw [eo2] at h
    exact fun σ' H' F' fps' R' st k => h .non H' F' _ [] (rel_end hl eo.na R' k) (stp_end hl R st) ⟨.non, fun a ha => nomatch ha⟩
  | ret d s' =>
    rw [eo2] at h
    exact fun v σ' H' F' fps' fp R' st k r => h v H' F' _ fp (rel_end hl eo.na R' k) (stp_end hl R st) (res_end hl R r)
  | cnt s' => rw [eo2] at h; exact h.elim
  | brk s' => rw [eo2] at h; exact h.elim
  | exc x s' => rw [eo2] at h; exact h.elim
  | bad => rw [eo2] at h; exact h.elim
/-- a table of defs -/
def tabP (T : List Ent) : Nat → Option Fn := fun i => (T.find? fun e => e.ix == i).map fun e => ⟨e.ks, e.N.length, e.body⟩
def tabF : List Ent → List (Str × Nat × List Bool)
  | [] => []
  | e :: T => (e.x, e.ix, e.ks) :: tabF T
theorem tabF_some : ∀ {T : List Ent} {x : Str} {f : Nat} {ks : List Bool}, (tabF T).lookup x = some (f, ks) → ∃ e ∈ T, e.ix = f ∧ e.x = x ∧ e.ks = ks
  | [], x, f, ks, h => by simp [tabF] at h
  | e :: T, x, f, ks, h => by
    unfold tabF at h
    rw [List.lookup_cons] at h
    cases q : x == e.x with
    | true =>
      rw [q] at h
      cases h
      exact ⟨e, List.mem_cons_self, rfl, (beq_iff_eq.mp q).symm, rfl⟩
    | false =>
      rw [q] at h
      obtain ⟨e2, h1, h2⟩ := tabF_some h
      exact ⟨e2, List.mem_cons_of_mem _ h1, h2⟩
structure EntAt (K : PySem.W.Frag) (mg : Str → Option Value) (e : Ent) : Prop where
  ex : ∃ a fd, Fun K e.x e.x e.st a fd ∧ mg e.x = some (.ref a) ∧ Binds K fd e.ps []
theorem all_fns {T : List Ent} {cs : List (Str × D)} (hc : ∀ x d, cs.lookup x = some d → ∃ u v, mg x = some u ∧ RelV v u ∧ ∀ F H, Rep K F H v d []) (hb : ∀ x ∈ bnames, mg x = none)
    (ho : ∀ e ∈ T, EntOk ⟨cs, tabF T⟩ e) (hP : ∀ e ∈ T, tabP T e.ix = some ⟨e.ks, e.N.length, e.body⟩) (ha : ∀ e ∈ T, EntAt K mg e) : ∀ k : Nat, Wd (tabP T) ⟨cs, tabF T⟩ k p w K mg base
  | 0 => ⟨hc, hb, fun x f ks h => by
      obtain ⟨e, h2, h1, h3, h4⟩ := tabF_some h
      obtain ⟨a, fd, F, hm, b⟩ := (ha e h2).ex
      subst h3 h4
      exact ⟨a, fd, e.ps, hm, F.kp, b, (ho e h2).ln.symm, fn_zero (ho e h2).ln⟩⟩
  | k + 1 => ⟨hc, hb, fun x f ks h => by
      have W := all_fns hc hb ho hP ha k
      obtain ⟨e, h2, h1, h3, h4⟩ := tabF_some h
      obtain ⟨a, fd, F, hm, b⟩ := (ha e h2).ex
      subst h3 h4 h1
      exact ⟨a, fd, e.ps, hm, F.kp, b, (ho e h2).ln.symm, fn_succ W (ho e h2) (hP e h2) F⟩⟩
/-- one def of the table -/
theorem one_fn {T : List Ent} {cs : List (Str × D)} {e : Ent} {a : Addr} {fd : FuncData} (W : Wd (tabP T) ⟨cs, tabF T⟩ k p w K mg base) (h : tabP T e.ix = some ⟨e.ks, e.N.length, e.body⟩) (eo : EntOk ⟨cs, tabF T⟩ e) (F : Fun K e.x e.x e.st a fd) :
    FnOk p w K mg base CX0 (k + 1) a fd e.ps (spF K e.ks.length (run (tabP T) (k + 1) e.ix)) := fn_succ W eo h F
end
theorem reps_ints {K : PySem.W.Frag} {F H : Hp} : ∀ ns : List Int, Reps K F H (ns.map V.int) (ns.map D.int) []
  | [] => .nil
  | n :: ns => Reps.cons0 (.int n) (reps_ints ns)
/-- the law's def: of the script a frozen list -/
def spLaw (K : PySem.W.Frag) (n : Nat) : Sp := fun vs H Q _ => ∃ (a : Addr) (ns : List Int), vs = [.ref a] ∧ SqL K H a (ns.map V.int) ∧ ns.length ≤ n ∧ ∀ H', Q (.bl true) H'
theorem law_imp {K : PySem.W.Frag} {n : Nat} {g : List D → CR} (h : ∀ ns : List Int, ns.length ≤ n → ∃ io, g [.lst false (ns.map .int)] = .ok (.bl true) io) : ∀ vs H Q E, spLaw K n vs H Q E → spF K 1 g vs H Q E := fun vs H Q E hs => by
  obtain ⟨a, ns, rfl, hS, hl, q⟩ := hs
  obtain ⟨io, hg⟩ := h ns hl
  refine ⟨rfl, H, [.lst false (ns.map .int)], fun _ => [], ⟨fun _ _ e => e, rfl, fun i d e => ?_, fun _ _ => rfl, fun _ _ _ a z => nomatch z⟩, ?_⟩
  · cases i with
    | zero =>
      cases e
      refine ⟨.ref a, rfl, ?_⟩
      exact .lstF hS (reps_ints ns)
    | succ i => simp [get] at e
  · rw [hg]
    intro v H' F' fps' fp R' st r
    have e : v = .bl true := by
      cases r.rep
      rfl
    subst e
    exact q H'
end Z

set_option Elab.async false
set_option linter.all false
set_option maxRecDepth 100000
/-! What a run gives, told backwards. -/
namespace Z
def R.Ok {α : Type} (r : R α) (Q : α → Env → Prop) : Prop := match r with
  | .ok a s => Q a s
  | _ => False
def O.Ok (o : O) (nx : Env → Prop) (rt : D → Env → Prop) (bk ct : Env → Prop) : Prop := match o with
  | .nxt s => nx s
  | .ret d s => rt d s
  | .brk s => bk s
  | .cnt s => ct s
  | _ => False
def CR.Ok (r : CR) (Q : D → Env → Prop) : Prop := match r with
  | .ok d io => Q d io
  | _ => False
section
variable {α β : Type} {Q Q' : α → Env → Prop} {a : α} {s : Env} {nx nx' bk bk' ct ct' : Env → Prop} {rt rt' : D → Env → Prop} {C : Nat → List D → CR} {q q' : D → Env → Prop} {ql : List D → Env → Prop}
theorem R.Ok.mono {r : R α} (h : r.Ok Q) (m : ∀ a s, Q a s → Q' a s) : r.Ok Q' := by
  cases r with
  | ok a s => exact m a s h
  | exc x s => exact h
  | bad => exact h
theorem CR.Ok.mono {r : CR} (h : r.Ok q) (m : ∀ a s, q a s → q' a s) : r.Ok q' := by
  cases r with
  | ok a s => exact m a s h
  | exc x s => exact h
  | bad => exact h
theorem O.Ok.mono {o : O} (h : o.Ok nx rt bk ct) (m1 : ∀ s, nx s → nx' s) (m2 : ∀ d s, rt d s → rt' d s) (m3 : ∀ s, bk s → bk' s) (m4 : ∀ s, ct s → ct' s) : o.Ok nx' rt' bk' ct' := by
  cases o with
  | nxt s => exact m1 s h
  | ret d s => exact m2 d s h
  | brk s => exact m3 s h
  | cnt s => exact m4 s h
  | exc x s => exact h
  | bad => exact h
@[simp] theorem rok_ok : (R.ok a s).Ok Q = Q a s := rfl
@[simp] theorem rok_bad : (R.bad : R α).Ok Q = False := rfl
@[simp] theorem rok_bind {r : R α} {f : α → Env → R β} {Q : β → Env → Prop} : (r.bind f).Ok Q = r.Ok fun a s => (f a s).Ok Q := by cases r <;> rfl
@[simp] theorem rok_O {r : R α} {f : α → Env → O} : (r.O f).Ok nx rt bk ct = r.Ok fun a s => (f a s).Ok nx rt bk ct := by cases r <;> rfl
@[simp] theorem rok_ite {c : Prop} [Decidable c] {x y : R α} : (if c then x else y).Ok Q = ((c → x.Ok Q) ∧ (¬ c → y.Ok Q)) := by by_cases h : c <;> simp [h]
@[simp] theorem rok_of {o : Option α} : (R.of o s).Ok Q = ∃ a, o = some a ∧ Q a s := by cases o <;> simp
@[simp] theorem ook_nxt : (O.nxt s).Ok nx rt bk ct = nx s := rfl
@[simp] theorem ook_ret {d : D} : (O.ret d s).Ok nx rt bk ct = rt d s := rfl
@[simp] theorem ook_brk : (O.brk s).Ok nx rt bk ct = bk s := rfl
@[simp] theorem ook_cnt : (O.cnt s).Ok nx rt bk ct = ct s := rfl
@[simp] theorem ook_bad : O.bad.Ok nx rt bk ct = False := rfl
@[simp] theorem cok_fin {ks : List Bool} {o : O} : (fin ks o).Ok q = o.Ok (fun s => q .non (mask ks 0 s)) (fun d s => q d (mask ks 0 s)) (fun _ => False) (fun _ => False) := by cases o <;> rfl
theorem cok_run {P : Nat → Option Fn} {k f : Nat} {ds : List D} {fn : Fn} (h : P f = some fn) (hl : ds.length = fn.ks.length)
    (g : (exec (run P k) fn.body (ds.map some ++ List.replicate (fn.n - ds.length) none)).Ok (fun s => q .non (mask fn.ks 0 s)) (fun d s => q d (mask fn.ks 0 s)) (fun _ => False) (fun _ => False)) : (run P (k + 1) f ds).Ok q := by
  unfold run
  rw [h]
  simp only [if_pos hl, cok_fin]
  exact g
/-! state -/
@[simp] theorem get_0 {o : Option D} {s : Env} : get (o :: s) 0 = o := rfl
@[simp] theorem get_1 {a o : Option D} {s : Env} : get (a :: o :: s) 1 = o := rfl
@[simp] theorem get_s {o : Option D} {s : Env} {i : Nat} : get (o :: s) (i + 1) = get s i := rfl
@[simp] theorem mask_n {j : Nat} : mask [] j s = [] := rfl
@[simp] theorem mask_t {ks : List Bool} {j : Nat} : mask (true :: ks) j s = get s j :: mask ks (j + 1) s := rfl
@[simp] theorem mask_f {ks : List Bool} {j : Nat} : mask (false :: ks) j s = none :: mask ks (j + 1) s := rfl
@[simp] theorem wipe_n : wipe s [] = s := rfl
@[simp] theorem wipe_c {i : Nat} {is : List Nat} : wipe s (i :: is) = (wipe s is).set i none := rfl
@[simp] theorem restore_n {t : Env} : restore t s [] = s := rfl
@[simp] theorem restore_c {t : Env} {i : Nat} {is : List Nat} : restore t s (i :: is) = (restore t s is).set i (get t i) := rfl
/-! expressions -/
@[simp] theorem w_c {d : D} : (ev C (.c d) s).Ok q = q d s := rfl
@[simp] theorem w_v {i : Nat} : (ev C (.v i) s).Ok q = ∃ d, get s i = some d ∧ q d s := by simp [ev]
@[simp] theorem w_fr {i : Nat} : (ev C (.fr i) s).Ok q = ∃ d, get s i = some d ∧ q d.frz (s.set i (some d.frz)) := by
  simp only [ev]
  cases get s i <;> simp
@[simp] theorem w_mov {i : Nat} : (ev C (.mov i) s).Ok q = ∃ d, get s i = some d ∧ q d (s.set i none) := by
  simp only [ev]
  cases get s i <;> simp
@[simp] theorem w_val {e : E} : (ev C (.val e) s).Ok q = (ev C e s).Ok fun d s => d.own = false ∧ q d s := by
  simp only [ev, rok_bind, rok_ite, rok_bad, rok_ok]
  congr 1
  funext d s
  cases d.own <;> simp
@[simp] theorem w_fz {e : E} : (ev C (.fz e) s).Ok q = (ev C e s).Ok fun d s => q d.frz s := by simp [ev]
@[simp] theorem w_un {u : U1} {e : E} : (ev C (.un u e) s).Ok q = (ev C e s).Ok fun d s => ∃ z, un1 u d = some z ∧ q z s := by simp [ev]
@[simp] theorem w_opf {o : O2} {a b : E} : (ev C (.op o false a b) s).Ok q = (ev C a s).Ok fun x s => (ev C b s).Ok fun y s => ∃ z, op2 o x y = some z ∧ q z s := by simp [ev]
@[simp] theorem w_opt {o : O2} {a b : E} : (ev C (.op o true a b) s).Ok q = (ev C a s).Ok fun x s => (ev C b s).Ok fun y s => x.own = false ∧ ∃ z, op2 o x y = some z ∧ q z s := by
  simp only [ev, rok_bind, rok_ite, rok_bad, rok_ok, rok_of, Bool.true_and]
  congr 1
  funext d s
  congr 1
  funext d2 s2
  cases d.own <;> simp
@[simp] theorem w_slc {m n : Bool} {a l h : E} : (ev C (.slc m n a l h) s).Ok q = (ev C a s).Ok fun x s => (ev C l s).Ok fun y s => (ev C h s).Ok fun z s => x.own = false ∧ ∃ w, slice3 m n x y z = some w ∧ q w s := by
  simp only [ev, rok_bind, rok_ite, rok_bad, rok_ok, rok_of]
  congr 1; funext d s; congr 1; funext d2 s2; congr 1; funext d3 s3
  cases d.own <;> simp
end
/-- a truth decides -/
def tst (x : D) (A B : Prop) : Prop := match x with
  | .bl b => (b = true → A) ∧ (b = false → B)
  | _ => False
@[simp] theorem tst_bl {b : Bool} {A B : Prop} : tst (.bl b) A B = ((b = true → A) ∧ (b = false → B)) := rfl
theorem tst_iff {x : D} {A B : Prop} : tst x A B = ∃ b, x = .bl b ∧ (b = true → A) ∧ (b = false → B) := by
  cases x <;> simp [tst]
section
variable {α β : Type} {Q Q' : α → Env → Prop} {a : α} {s : Env} {nx nx' bk bk' ct ct' : Env → Prop} {rt rt' : D → Env → Prop} {C : Nat → List D → CR} {q q' : D → Env → Prop} {ql : List D → Env → Prop}
theorem asB_cases {x : D} {f g : R α} : (match asB x with | some true => f | some false => g | none => .bad : R α).Ok Q = tst x (f.Ok Q) (g.Ok Q) := by
  rw [tst_iff]
  cases x with
  | bl b => cases b <;> simp [asB]
  | _ => simp [asB]
theorem asB_casesO {x : D} {f g : O} : (match asB x with | some true => f | some false => g | none => .bad : O).Ok nx rt bk ct = tst x (f.Ok nx rt bk ct) (g.Ok nx rt bk ct) := by
  rw [tst_iff]
  cases x with
  | bl b => cases b <;> simp [asB]
  | _ => simp [asB]
@[simp] theorem w_and {a b : E} : (ev C (.and a b) s).Ok q = (ev C a s).Ok fun x s => tst x ((ev C b s).Ok q) (q (.bl false) s) := by
  simp only [ev, rok_bind]
  congr 1; funext x s
  exact asB_cases
@[simp] theorem w_or {a b : E} : (ev C (.or a b) s).Ok q = (ev C a s).Ok fun x s => tst x (q (.bl true) s) ((ev C b s).Ok q) := by
  simp only [ev, rok_bind]
  congr 1; funext x s
  rw [tst_iff]
  cases x with
  | bl b => cases b <;> simp [asB]
  | _ => simp [asB]
@[simp] theorem w_ite {c a b : E} : (ev C (.ite c a b) s).Ok q = (ev C c s).Ok fun x s => tst x ((ev C a s).Ok q) ((ev C b s).Ok q) := by
  simp only [ev, rok_bind]
  congr 1; funext x s
  exact asB_cases
@[simp] theorem w_chain {o p : O2} {a b c : E} : (ev C (.chain o p a b c) s).Ok q = (ev C a s).Ok fun x s => (ev C b s).Ok fun y s => x.own = false ∧ y.own = false ∧ ∃ z, op2 o x y = some z ∧ tst z ((ev C c s).Ok fun w s => ∃ r, op2 p y w = some r ∧ q r s) (q (.bl false) s) := by
  simp only [ev, rok_bind, rok_ite, rok_bad, rok_of]
  congr 1; funext x s; congr 1; funext y s
  cases x.own <;> cases y.own <;> simp
  cases op2 o x y with
  | none => simp
  | some z =>
    cases z with
    | bl b => cases b <;> simp [asB]
    | _ => simp [asB, tst]
@[simp] theorem w_tup {es : EL} : (ev C (.tup es) s).Ok q = (evL C es s).Ok fun ds s => q (.tup ds) s := by simp [ev]
@[simp] theorem w_lst {es : EL} : (ev C (.lst es) s).Ok q = (evL C es s).Ok fun ds s => q (.lst true ds) s := by simp [ev]
@[simp] theorem w_nil : (evL C .nil s).Ok ql = ql [] s := rfl
@[simp] theorem w_cons {e : E} {es : EL} : (evL C (.cons e es) s).Ok ql = (ev C e s).Ok fun d s => (evL C es s).Ok fun ds s => ql (d :: ds) s := by simp [evL]
def fillK : List (Option Nat) → List D → Env → (List D → Env → Prop) → Prop
  | [], [], s, q => q [] s
  | none :: as, d :: ds, s, q => fillK as ds s fun r s => q (d :: r) s
  | some i :: as, _ :: ds, s, q => ∃ d, get s i = some d ∧ fillK as ds (s.set i none) fun r s => q (d :: r) s
  | _, _, _, _ => False
theorem fillK_iff : ∀ {as : List (Option Nat)} {ds : List D} {s : Env} {q : List D → Env → Prop}, (∃ p, fill as ds s = some p ∧ q p.1 p.2) ↔ fillK as ds s q
  | [], [], s, q => by simp [fill, fillK]
  | [], _ :: _, s, q => by simp [fill, fillK]
  | none :: as, [], s, q => by simp [fill, fillK]
  | some i :: as, [], s, q => by simp [fill, fillK]
  | none :: as, d :: ds, s, q => by
    have ih := fillK_iff (as := as) (ds := ds) (s := s) (q := fun r s => q (d :: r) s)
    simp only [fill, fillK, ← ih]
    cases fill as ds s <;> simp
  | some i :: as, d0 :: ds, s, q => by
    simp only [fill, fillK]
    cases get s i with
    | none => simp
    | some d =>
      have ih := fillK_iff (as := as) (ds := ds) (s := s.set i none) (q := fun r s => q (d :: r) s)
      simp only [Option.bind_some, Option.some.injEq, exists_eq_left', ← ih]
      cases fill as ds (s.set i none) <;> simp
@[simp] theorem fillK_n : fillK [] [] s ql = ql [] s := rfl
@[simp] theorem fillK_c {as : List (Option Nat)} {d : D} {ds : List D} : fillK (none :: as) (d :: ds) s ql = fillK as ds s fun r s => ql (d :: r) s := rfl
@[simp] theorem fillK_s {as : List (Option Nat)} {i : Nat} {d : D} {ds : List D} : fillK (some i :: as) (d :: ds) s ql = ∃ d, get s i = some d ∧ fillK as ds (s.set i none) fun r s => ql (d :: r) s := rfl
@[simp] theorem w_call {f : Nat} {as : List (Option Nat)} {es : EL} : (ev C (.call f as es) s).Ok q = (evL C es s).Ok fun ds s => fillK as ds s fun ds s => (C f ds).Ok fun d io => q d (back as io s) := by
  simp only [ev, rok_bind]
  congr 1; funext ds s
  refine propext (Iff.trans ?_ fillK_iff)
  cases fill as ds s with
  | none => simp
  | some p =>
    obtain ⟨a, b⟩ := p
    simp only [Option.some.injEq, exists_eq_left']
    cases C f a <;> simp [CR.Ok, R.Ok]
@[simp] theorem w_mu {m : Mu} {i : Nat} {es : EL} : (ev C (.mu m i es) s).Ok q = ∃ d0, get s i = some d0 ∧ muOk m d0 = true ∧ (evL C es s).Ok fun ds s => ∃ d, get s i = some d ∧ ∃ p, mutate m d ds = some p ∧ q p.1 (s.set i (some p.2)) := by
  simp only [ev]
  cases get s i with
  | none => simp
  | some d0 =>
    simp only [Option.some.injEq, exists_eq_left', rok_ite, rok_bind, rok_bad]
    cases muOk m d0 with
    | false => simp
    | true =>
      simp
      refine iff_of_eq ?_
      congr 1; funext ds s
      cases get s i with
      | none => simp
      | some d =>
        simp only [Option.some.injEq, exists_eq_left']
        cases mutate m d ds with
        | none => simp
        | some p =>
          obtain ⟨a, b⟩ := p
          simp
          exact ⟨fun h => ⟨a, b, ⟨rfl, rfl⟩, h⟩, fun ⟨_, _, ⟨e1, e2⟩, h⟩ => by subst e1 e2; exact h⟩
@[simp] theorem back_n : back [] [] s = s := rfl
@[simp] theorem back_c {as : List (Option Nat)} {o : Option D} {ds : Env} : back (none :: as) (o :: ds) s = back as ds s := rfl
@[simp] theorem back_s {as : List (Option Nat)} {i : Nat} {o : Option D} {ds : Env} : back (some i :: as) (o :: ds) s = (back as ds s).set i o := rfl
/-! statements -/
@[simp] theorem w_skip : (exec C .skip s).Ok nx rt bk ct = nx s := rfl
@[simp] theorem w_brk : (exec C .brk s).Ok nx rt bk ct = bk s := rfl
@[simp] theorem w_cnt : (exec C .cnt s).Ok nx rt bk ct = ct s := rfl
@[simp] theorem w_asg {i : Nat} {e : E} : (exec C (.asg i e) s).Ok nx rt bk ct = (ev C e s).Ok fun d s => nx (s.set i (some d)) := by simp [exec]
@[simp] theorem w_ex {e : E} : (exec C (.ex e) s).Ok nx rt bk ct = (ev C e s).Ok fun d s => nx s := by simp [exec]
@[simp] theorem w_ret {e : E} : (exec C (.ret e) s).Ok nx rt bk ct = (ev C e s).Ok fun d s => rt d s := by simp [exec]
@[simp] theorem w_seq {a b : S} : (exec C (.seq a b) s).Ok nx rt bk ct = (exec C a s).Ok (fun s => (exec C b s).Ok nx rt bk ct) rt bk ct := by
  simp only [exec]
  cases exec C a s <;> rfl
@[simp] theorem w_if {c : E} {a b : S} : (exec C (.ite c a b) s).Ok nx rt bk ct = (ev C c s).Ok fun x s => tst x ((exec C a s).Ok nx rt bk ct) ((exec C b s).Ok nx rt bk ct) := by
  simp only [exec, rok_O]
  congr 1; funext x s
  exact asB_casesO
@[simp] theorem w_unp {is : List Nat} {e : E} : (exec C (.unp is e) s).Ok nx rt bk ct = (ev C e s).Ok fun d s => ∃ s', assignT (.tp is) d s = some s' ∧ nx s' := by
  simp only [exec, rok_O]
  congr 1; funext x s
  cases assignT (.tp is) x s <;> simp
@[simp] theorem w_st {i : Nat} {k e : E} : (exec C (.st i k e) s).Ok nx rt bk ct = (ev C e s).Ok fun y s => (∃ d0, get s i = some d0) ∧ (ev C k s).Ok fun k s => ∃ d, get s i = some d ∧ ∃ d', storeAt d k y = some d' ∧ nx (s.set i (some d')) := by
  simp only [exec, rok_O]
  congr 1; funext y s
  cases get s i with
  | none => simp
  | some d0 =>
    simp only [rok_O, Option.some.injEq, exists_eq', true_and]
    congr 1; funext k s
    cases get s i with
    | none => simp
    | some d =>
      simp only [Option.some.injEq, exists_eq_left']
      cases storeAt d k y <;> simp
@[simp] theorem w_aug {i : Nat} {o : O2} {e : E} : (exec C (.aug i o e) s).Ok nx rt bk ct = ((∃ d0, get s i = some d0) ∧ (ev C e s).Ok fun y s => ∃ x, get s i = some x ∧ ∃ z, aug2 o x y = some z ∧ nx (s.set i (some z))) := by
  simp only [exec]
  cases get s i with
  | none => simp
  | some d0 =>
    simp only [rok_O, Option.some.injEq, exists_eq', true_and]
    congr 1; funext k s
    cases get s i with
    | none => simp
    | some d =>
      simp only [Option.some.injEq, exists_eq_left']
      cases aug2 o d k <;> simp
theorem w_cut {a b : S} (I : Env → Prop) (h1 : (exec C a s).Ok I rt bk ct) (h2 : ∀ s, I s → (exec C b s).Ok nx rt bk ct) : (exec C (.seq a b) s).Ok nx rt bk ct := by
  rw [w_seq]
  exact h1.mono h2 (fun _ _ h => h) (fun _ h => h) (fun _ h => h)
/-! loops -/
theorem w_wh {c : E} {b : S} (I : Nat → Env → Prop) (n : Nat) (hn : n < W) (h0 : I n s)
    (hs : ∀ n s, I n s → (ev C c s).Ok fun x s => tst x (∃ m, n = m + 1 ∧ (exec C b s).Ok (I m) rt nx (I m)) (nx s)) : (exec C (.wh c b) s).Ok nx rt bk ct := by
  simp only [exec]
  have key : ∀ (f n : Nat), n < f → ∀ s, I n s → (wloop (ev C c) (exec C b) f s).Ok nx rt bk ct := by
    intro f
    induction f with
    | zero => intro n hn; omega
    | succ f ih =>
      intro n hn s hi
      have q := hs n s hi
      unfold wloop
      cases hc : ev C c s with
      | exc x s => rw [hc] at q; exact q.elim
      | bad => rw [hc] at q; exact q.elim
      | ok x s1 =>
        rw [hc] at q
        simp only [rok_ok, tst_iff] at q
        obtain ⟨v, rfl, q2', q1⟩ := q
        cases v with
        | false => exact q1 rfl
        | true =>
          obtain ⟨m, rfl, q2⟩ := q2' rfl
          clear q2'
          simp only [asB]
          cases hb : exec C b s1 with
          | nxt s => rw [hb] at q2; exact ih m (by omega) s q2
          | cnt s => rw [hb] at q2; exact ih m (by omega) s q2
          | brk s => rw [hb] at q2; exact q2
          | ret d s => rw [hb] at q2; exact q2
          | exc x s => rw [hb] at q2; exact q2.elim
          | bad => rw [hb] at q2; exact q2.elim
  exact key W n hn s h0
/-- a walk: I of what is still to come -/
theorem w_floop {f : D → Env → O} (I : List D → Env → Prop) : ∀ (xs : List D) (s : Env), I xs s → (∀ x r s, I (x :: r) s → (f x s).Ok (I r) rt nx (I r)) → (∀ s, I [] s → nx s) → (floop f xs s).Ok nx rt bk ct
  | [], s, h0, _, he => he s h0
  | x :: r, s, h0, hs, he => by
    have q := hs x r s h0
    unfold floop
    cases hb : f x s with
    | nxt s => rw [hb] at q; exact w_floop I r s q hs he
    | cnt s => rw [hb] at q; exact w_floop I r s q hs he
    | brk s => rw [hb] at q; exact q
    | ret d s => rw [hb] at q; exact q
    | exc x s => rw [hb] at q; exact q.elim
    | bad => rw [hb] at q; exact q.elim
theorem w_for {tg : T} {src : Sr} {b : S} (I : List D → Env → Prop) (h0 : (evS C src s).Ok fun xs s => I xs s) (hs : ∀ x r s, I (x :: r) s → ∃ s', assignT tg x s = some s' ∧ (exec C b s').Ok (I r) rt nx (I r)) (he : ∀ s, I [] s → nx s) : (exec C (.for tg src b) s).Ok nx rt bk ct := by
  simp only [exec, rok_O]
  refine h0.mono fun xs s h => w_floop I xs s h (fun x r s h => ?_) he
  obtain ⟨s', e, q⟩ := hs x r s h
  rw [e]
  exact q
@[simp] theorem w_nm {i : Nat} {d : D} : assignT (.nm i) d s = some (s.set i (some d)) := rfl
theorem w_compL {f : D → Env → R (Option D)} (I : List D → List D → Env → Prop) : ∀ (xs : List D) (s : Env) (acc : List D), I acc xs s → (∀ acc x r s, I acc (x :: r) s → (f x s).Ok fun o s => I (acc ++ o.toList) r s) → (compL f xs s).Ok fun ys s => I (acc ++ ys) [] s
  | [], s, acc, h0, _ => by
    simp only [compL, rok_ok, List.append_nil]
    exact h0
  | x :: r, s, acc, h0, hs => by
    simp only [compL, rok_bind, rok_ok]
    refine (hs acc x r s h0).mono fun o s h => (w_compL I r s _ h hs).mono fun ys s h => ?_
    rw [← List.append_assoc]
    exact h
/-- a comprehension: I of what is made and what is still to come -/
theorem w_comp {elt : E} {tg : T} {src : Sr} {cnd : E} {own : List Nat} (I : List D → List D → Env → Prop)
    (h0 : (evS C src s).Ok fun xs s1 => xs.length ≤ SL ∧ I [] xs s1 ∧ (∀ acc x r s, I acc (x :: r) s → ∃ s', assignT tg x (wipe s own) = some s' ∧ (ev C cnd s').Ok fun b s => tst b ((ev C elt s).Ok fun y s => I (acc ++ [y]) r s) (I acc r s)) ∧
      ∀ ys s2, I ys [] s2 → q (.lst true ys) (restore s1 s2 own)) : (ev C (.comp elt tg src cnd own) s).Ok q := by
  simp only [ev, rok_bind]
  refine h0.mono fun xs s1 h => ?_
  obtain ⟨hl, hi, hs, he⟩ := h
  rw [if_neg (by omega)]
  simp only [rok_bind, rok_ok]
  refine (w_compL I xs s1 [] hi fun acc x r s h => ?_).mono fun ys s h => he ys s (by simpa using h)
  obtain ⟨s', e, h2⟩ := hs acc x r s h
  rw [e]
  simp only [rok_bind]
  refine h2.mono fun b s h => ?_
  rw [tst_iff] at h
  obtain ⟨v, rfl, h3, h4⟩ := h
  cases v with
  | true =>
    simp only [asB, rok_bind, rok_ok, Option.toList]
    exact h3 rfl
  | false =>
    simp only [asB, rok_ok, Option.toList, List.append_nil]
    exact h4 rfl
theorem compL_F {f : D → Env → R (Option D)} (g : D → Option D) (J : Env → Prop) : ∀ (xs : List D) (s : Env), J s → (∀ x ∈ xs, ∀ s, J s → (f x s).Ok fun o s => J s ∧ o = g x) → (compL f xs s).Ok fun ys s => J s ∧ ys = xs.filterMap g
  | [], s, h, _ => ⟨h, rfl⟩
  | x :: r, s, h, hs => by
    simp only [compL, rok_bind, rok_ok]
    refine (hs x List.mem_cons_self s h).mono fun o s h => (compL_F g J r s h.1 fun y hy => hs y (List.mem_cons_of_mem _ hy)).mono fun ys s h2 => ⟨h2.1, ?_⟩
    rw [h2.2, h.2, List.filterMap_cons]
    cases g x <;> rfl
/-- a comprehension that changes nothing -/
theorem w_compF {elt : E} {tg : T} {src : Sr} {cnd : E} {own : List Nat} (g : D → Option D) (J : Env → Prop)
    (h0 : (evS C src s).Ok fun xs s1 => xs.length ≤ SL ∧ J s1 ∧ (∀ x ∈ xs, ∀ s, J s → ∃ s', assignT tg x (wipe s own) = some s' ∧ (ev C cnd s').Ok fun b s => tst b ((ev C elt s).Ok fun y s => J s ∧ g x = some y) (J s ∧ g x = none)) ∧
      ∀ s2, J s2 → q (.lst true (xs.filterMap g)) (restore s1 s2 own)) : (ev C (.comp elt tg src cnd own) s).Ok q := by
  simp only [ev, rok_bind]
  refine h0.mono fun xs s1 h => ?_
  obtain ⟨hl, hi, hs, he⟩ := h
  rw [if_neg (by omega)]
  simp only [rok_bind, rok_ok]
  refine (compL_F g J xs s1 hi fun x hx s h => ?_).mono fun ys s h => by rw [h.2]; exact he s h.1
  obtain ⟨s', e, h2⟩ := hs x hx s h
  rw [e]
  simp only [rok_bind]
  refine h2.mono fun b s h => ?_
  rw [tst_iff] at h
  obtain ⟨v, rfl, h3, h4⟩ := h
  cases v with
  | true =>
    simp only [asB, rok_bind, rok_ok]
    exact (h3 rfl).mono fun y s h => ⟨h.1, h.2.symm⟩
  | false =>
    simp only [asB, rok_ok]
    exact ⟨(h4 rfl).1, (h4 rfl).2.symm⟩
@[simp] theorem w_of {e : E} {ql : List D → Env → Prop} : (evS C (.of e) s).Ok ql = (ev C e s).Ok fun d s => ∃ xs, iterOf d = some xs ∧ ownL xs = false ∧ ql xs s := by
  simp only [evS, rok_bind]
  congr 1; funext d s
  cases iterOf d with
  | none => simp
  | some xs =>
    simp only [rok_ite, rok_bad, rok_ok, Option.some.injEq, exists_eq_left']
    cases ownL xs <;> simp
@[simp] theorem w_rng {e : E} {ql : List D → Env → Prop} : (evS C (.rng e) s).Ok ql = (ev C e s).Ok fun d s => ∃ xs, (asI d).bind rng1 = some xs ∧ ql xs s := by simp [evS]
end
/-! operations -/
@[simp] theorem ex_ca {α : Type} {c : Prop} {a : α} {p : α → Prop} : (∃ z, (c ∧ a = z) ∧ p z) ↔ c ∧ p a := ⟨fun ⟨_, ⟨h, e⟩, q⟩ => ⟨h, e ▸ q⟩, fun ⟨h, q⟩ => ⟨a, ⟨h, rfl⟩, q⟩⟩
@[simp] theorem ex_caa {α : Type} {c e : Prop} {a : α} {p : α → Prop} : (∃ z, (c ∧ e ∧ a = z) ∧ p z) ↔ c ∧ e ∧ p a := ⟨fun ⟨_, ⟨h, g, e⟩, q⟩ => ⟨h, g, e ▸ q⟩, fun ⟨h, g, q⟩ => ⟨a, ⟨h, g, rfl⟩, q⟩⟩
@[simp] theorem at_0 {α : Type} {x : α} {xs : List α} : at_ (x :: xs) 0 = some x := by
  unfold at_ ixOf
  rw [if_pos (by omega), if_pos (by simp)]
  rfl
@[simp] theorem at_1 {α : Type} {x y : α} {xs : List α} : at_ (x :: y :: xs) 1 = some y := by
  unfold at_ ixOf
  rw [if_pos (by omega), if_pos (by simp; omega)]
  rfl
@[simp] theorem ix_0 : ixOf 2 0 = some 0 := rfl
@[simp] theorem ix_1 : ixOf 2 1 = some 1 := rfl
@[simp] theorem mulOk_r {i : Int} {n : Nat} (h : n < 18446744073709551616) : mulOk i (OfNat.ofNat n) = true := by
  have e : (OfNat.ofNat n : Int).natAbs = n := rfl
  unfold mulOk
  rw [e]
  simp [h]
@[simp] theorem mulOk_l {i : Int} {n : Nat} (h : n < 18446744073709551616) : mulOk (OfNat.ofNat n) i = true := by
  have e : (OfNat.ofNat n : Int).natAbs = n := rfl
  unfold mulOk
  rw [e]
  simp [h]
mutual
@[simp] theorem frz_own : ∀ d : D, d.frz.own = false
  | .non => rfl
  | .bl _ => rfl
  | .int _ => rfl
  | .str _ => rfl
  | .tup xs => frzL_own xs
  | .lst _ xs => by simp [D.frz, D.own, frzL_own xs]
  | .dct _ xs => by simp [D.frz, D.own, frzP_own xs]
  | .set _ xs => by simp [D.frz, D.own, frzL_own xs]
  | .ins _ _ xs => by simp [D.frz, D.own, frzF_own xs]
@[simp] theorem frzL_own : ∀ xs : List D, ownL (frzL xs) = false
  | [] => rfl
  | x :: xs => by simp [frzL, ownL, frz_own x, frzL_own xs]
theorem frzP_own : ∀ xs : List (D × D), ownP (frzP xs) = false
  | [] => rfl
  | (x, y) :: xs => by simp [frzP, ownP, frz_own x, frz_own y, frzP_own xs]
theorem frzF_own : ∀ xs : List (Nat × D), ownF (frzF xs) = false
  | [] => rfl
  | (x, y) :: xs => by simp [frzF, ownF, frz_own y, frzF_own xs]
end
@[simp] theorem eqOf_i {i j : Int} : eqOf (.int i) (.int j) = some (i == j) := rfl
@[simp] theorem eqOf_s {i j : List Nat} : eqOf (.str i) (.str j) = some (i == j) := rfl
@[simp] theorem eqOf_b {i j : Bool} : eqOf (.bl i) (.bl j) = some (i == j) := rfl
theorem mulOk_a {i j : Int} (h : i.natAbs < 18446744073709551616) : mulOk i j = true := by simp [mulOk, h]
theorem mulOk_b {i j : Int} (h : j.natAbs < 18446744073709551616) : mulOk i j = true := by simp [mulOk, h]
section
variable {i j : Int} {s t : List Nat} {o p b c : Bool} {xs ys : List D} {x y : D}
@[simp] theorem o_addi : op2 .add (.int i) (.int j) = some (.int (i + j)) := rfl
@[simp] theorem o_adds : op2 .add (.str s) (.str t) = if s.length + t.length ≤ SL then some (.str (s ++ t)) else none := rfl
@[simp] theorem o_addl : op2 .add (.lst o xs) (.lst p ys) = if ownL xs ∨ ownL ys ∨ SL < xs.length + ys.length then none else some (.lst true (xs ++ ys)) := rfl
@[simp] theorem o_addt : op2 .add (.tup xs) (.tup ys) = if ownL xs ∨ ownL ys ∨ SL < xs.length + ys.length then none else some (.tup (xs ++ ys)) := rfl
@[simp] theorem o_sub : op2 .sub (.int i) (.int j) = some (.int (i - j)) := rfl
@[simp] theorem o_mul : op2 .mul (.int i) (.int j) = if mulOk i j then some (.int (i * j)) else none := rfl
@[simp] theorem o_muls : op2 .mul (.str s) (.int j) = if j < 1000000 ∧ -1000000 < j ∧ s.length * j.toNat ≤ SL then some (.str (List.replicate j.toNat s).flatten) else none := rfl
@[simp] theorem o_fdiv : op2 .fdiv (.int i) (.int j) = if 0 < j ∧ j < 1073741824 then some (.int (i / j)) else none := rfl
@[simp] theorem o_mod : op2 .mod (.int i) (.int j) = if 0 < j then some (.int (i % j)) else none := rfl
@[simp] theorem o_pow : op2 .pow (.int i) (.int j) = if 0 ≤ j ∧ j ≤ 1000000 ∧ i.natAbs < 18446744073709551616 then some (.int (i ^ j.toNat)) else none := rfl
@[simp] theorem o_eq : op2 .eq x y = (eqOf x y).map .bl := by cases x <;> rfl
@[simp] theorem o_ne : op2 .ne x y = (eqOf x y).map fun b => .bl (!b) := by cases x <;> rfl
@[simp] theorem o_isin : op2 .isin x y = (inOf x y).map .bl := by cases x <;> rfl
@[simp] theorem o_notin : op2 .notin x y = (inOf x y).map fun b => .bl (!b) := by cases x <;> rfl
@[simp] theorem o_lt : op2 .lt (.int i) (.int j) = some (.bl (decide (i < j))) := rfl
@[simp] theorem o_le : op2 .le (.int i) (.int j) = some (.bl (decide (i ≤ j))) := rfl
@[simp] theorem o_gt : op2 .gt (.int i) (.int j) = some (.bl (decide (j < i))) := rfl
@[simp] theorem o_ge : op2 .ge (.int i) (.int j) = some (.bl (decide (j ≤ i))) := rfl
@[simp] theorem o_ixl : op2 .ix (.lst o xs) (.int i) = at_ xs i := rfl
@[simp] theorem o_ixt : op2 .ix (.tup xs) (.int i) = at_ xs i := rfl
@[simp] theorem o_ixs : op2 .ix (.str s) (.int i) = if s.length ≤ SL then (at_ s i).map fun c => .str [c] else none := rfl
@[simp] theorem o_min : op2 .min (.int i) (.int j) = some (.int (if j < i then j else i)) := rfl
@[simp] theorem o_max : op2 .max (.int i) (.int j) = some (.int (if j > i then j else i)) := rfl
@[simp] theorem o_split {c : Nat} : op2 .split (.str s) (.str [c]) = if s.length + 2 ≤ SL then some (.lst true ((parts c s).map .str)) else none := rfl
theorem o_join : op2 .join (.str s) (.lst o xs) = (strsOf xs).bind fun ys => if (ys.map List.length).sum + ys.length * s.length ≤ SL then some (.str (joined s ys)) else none := rfl
@[simp] theorem u_lenl : un1 .len (.lst o xs) = some (.int (xs.length : Int)) := rfl
@[simp] theorem u_lent : un1 .len (.tup xs) = some (.int (xs.length : Int)) := rfl
@[simp] theorem u_lens : un1 .len (.str s) = (if s.length ≤ SL then some s.length else none).map fun (n : Nat) => D.int (n : Int) := rfl
@[simp] theorem u_all : un1 .all (.lst o xs) = (truths xs).map fun bs => .bl (bs.all id) := rfl
@[simp] theorem u_any : un1 .any (.lst o xs) = (truths xs).map fun bs => .bl (bs.any id) := rfl
@[simp] theorem u_listl : un1 .list (.lst o xs) = if ownL xs then none else some (.lst true xs) := rfl
@[simp] theorem u_listt : un1 .list (.tup xs) = if ownL xs then none else some (.lst true xs) := rfl
@[simp] theorem u_tuplel : un1 .tuple (.lst o xs) = if ownL xs then none else some (.tup xs) := rfl
@[simp] theorem u_tuplet : un1 .tuple (.tup xs) = if ownL xs then none else some (.tup xs) := rfl
@[simp] theorem u_inti : un1 .int (.int i) = some (.int i) := rfl
@[simp] theorem u_intb : un1 .int (.bl b) = some (.int (b2i b)) := rfl
@[simp] theorem u_neg : un1 .neg (.int i) = some (.int (-i)) := rfl
@[simp] theorem u_not : un1 .not (.bl b) = some (.bl (!b)) := rfl
@[simp] theorem u_isNone : un1 .isNone x = some (.bl (match x with | .non => true | _ => false)) := by cases x <;> rfl
@[simp] theorem u_notNone : un1 .notNone x = some (.bl (match x with | .non => false | _ => true)) := by cases x <;> rfl
@[simp] theorem u_isStr : un1 .isStr x = some (.bl x.isStrB) := by cases x <;> rfl
@[simp] theorem u_isTup : un1 .isTup x = some (.bl x.isTupB) := by cases x <;> rfl
@[simp] theorem u_isLst : un1 .isLst x = some (.bl x.isLstB) := by cases x <;> rfl
@[simp] theorem u_isBool : un1 .isBool x = some (.bl x.isBoolB) := by cases x <;> rfl
@[simp] theorem u_isInt : un1 .isInt x = some (.bl x.isIntB) := by cases x <;> rfl
@[simp] theorem u_upper : un1 .upper (.str s) = if s.length ≤ 5592405 then some (.str (s.map upc)) else none := rfl
@[simp] theorem own_non : D.non.own = false := rfl
@[simp] theorem own_bl : (D.bl b).own = false := rfl
@[simp] theorem own_int : (D.int i).own = false := rfl
@[simp] theorem own_str : (D.str s).own = false := rfl
@[simp] theorem own_tup : (D.tup xs).own = ownL xs := rfl
@[simp] theorem own_lst : (D.lst o xs).own = (o || ownL xs) := rfl
@[simp] theorem own_nil : ownL [] = false := rfl
@[simp] theorem own_cons : ownL (x :: xs) = (x.own || ownL xs) := rfl
@[simp] theorem frz_non : D.non.frz = .non := rfl
@[simp] theorem frz_bl : (D.bl b).frz = .bl b := rfl
@[simp] theorem frz_int : (D.int i).frz = .int i := rfl
@[simp] theorem frz_str : (D.str s).frz = .str s := rfl
@[simp] theorem frz_tup : (D.tup xs).frz = .tup (frzL xs) := rfl
@[simp] theorem frz_lst : (D.lst o xs).frz = .lst false (frzL xs) := rfl
@[simp] theorem frz_nil : frzL [] = [] := rfl
@[simp] theorem frz_cons : frzL (x :: xs) = x.frz :: frzL xs := rfl
@[simp] theorem st_l : storeAt (.lst true xs) (.int i) y = (ixOf xs.length i).map fun j => .lst true (xs.set j y) := rfl
@[simp] theorem a_addi : aug2 .add (.int i) (.int j) = some (.int (i + j)) := rfl
@[simp] theorem a_subi : aug2 .sub (.int i) (.int j) = some (.int (i - j)) := rfl
@[simp] theorem muOk_l {m : Mu} : muOk m (.lst o xs) = true := by cases m <;> rfl
@[simp] theorem mut_append : mutate .append (.lst true xs) [y] = if xs.length < SL then some (.non, .lst true (xs ++ [y])) else none := rfl
@[simp] theorem asI_i : asI (.int i) = some i := rfl
@[simp] theorem it_l : iterOf (.lst o xs) = some xs := rfl
@[simp] theorem it_t : iterOf (.tup xs) = some xs := rfl
@[simp] theorem it_s : iterOf (.str s) = if s.length ≤ SL then some (s.map fun c => .str [c]) else none := rfl
end
end Z

set_option Elab.async false
set_option linter.all false
set_option maxRecDepth 100000
namespace Z
/- _law_draw -/
def b2 : S :=
    (.seq (.ite (.op .gt false (.op .ix false (.v 0) (.c (.int 0))) (.c (.int 0)))
    (.seq (.asg 2 (.op .mod false (.op .ix false (.v 0) (.c (.int 0))) (.v 1)))
      (.seq (.st 0 (.c (.int 0)) (.op .fdiv false (.op .ix false (.v 0) (.c (.int 0))) (.v 1)))
      (.ret (.mov 2))))
    .skip)
    (.seq (.asg 2 (.c (.int 0)))
    (.seq (.asg 3 (.c (.int 1)))
    (.seq (.wh (.op .lt false (.v 3) (.v 1))
    (.seq (.st 0 (.c (.int 1)) (.op .mod false (.op .mul false (.op .ix false (.v 0) (.c (.int 1))) (.c (.int 69621))) (.c (.int 2147483647))))
      (.seq (.asg 2 (.op .add false (.op .mul false (.v 2) (.c (.int 268435456))) (.op .fdiv false (.op .mod false (.op .mul false (.op .ix false (.v 0) (.c (.int 1))) (.op .add false (.op .fdiv false (.op .ix false (.v 0) (.c (.int 1))) (.c (.int 128))) (.c (.int 3)))) (.c (.int 2147483629))) (.c (.int 8)))))
      (.asg 3 (.op .mul false (.v 3) (.c (.int 268435456)))))))
    (.ret (.op .mod false (.v 2) (.v 1)))))))
def f2 : Fn := ⟨[true, false], 4, b2⟩
/- _law_of -/
def b3 : S :=
    (.ret (.val (.op .ix false (.v 1) (.call 2 [some 0, none] (.cons (.v 0) (.cons (.un .len (.v 1)) .nil))))))
def f3 : Fn := ⟨[true, false], 2, b3⟩
/- _law_draws -/
def b4 : S :=
    (.seq (.asg 2 (.op .mul false (.c (.int 15485863)) (.v 1)))
    (.seq (.ite (.op .lt false (.v 1) (.un .len (.v 0)))
    (.asg 2 (.op .mod false (.op .ix false (.v 0) (.v 1)) (.op .mul false (.op .mul false (.op .mul false (.op .mul false (.op .pow false (.c (.int 10)) (.c (.int 60))) (.op .pow false (.c (.int 10)) (.c (.int 60)))) (.op .pow false (.c (.int 10)) (.c (.int 60)))) (.op .pow false (.c (.int 10)) (.c (.int 60)))) (.op .pow false (.c (.int 10)) (.c (.int 60))))))
    (.ite (.op .gt false (.un .len (.v 0)) (.c (.int 0)))
      (.asg 2 (.op .add false (.op .mod false (.op .ix false (.v 0) (.op .mod false (.v 1) (.un .len (.v 0)))) (.op .pow false (.c (.int 10)) (.c (.int 15)))) (.op .mul false (.c (.int 15485863)) (.v 1))))
      .skip))
    (.ret (.lst (.cons (.op .mul false (.v 2) (.un .int (.op .ge false (.v 2) (.op .pow false (.c (.int 10)) (.c (.int 18)))))) (.cons (.op .add false (.c (.int 1)) (.op .mod false (.op .add false (.op .mul false (.v 2) (.c (.int 69621))) (.op .mul false (.c (.int 86028121)) (.op .add false (.v 1) (.c (.int 1))))) (.c (.int 2147483646)))) .nil))))))
def f4 : Fn := ⟨[false, false], 3, b4⟩
/- _law_signs -/
def b5 : S :=
    (.ret (.c (.str [46, 97, 98, 99, 100, 101, 102, 103, 104, 105, 106, 107, 108, 109, 110, 111, 112, 113, 114, 115, 116, 117, 118, 119, 120, 121, 122])))
def f5 : Fn := ⟨[], 0, b5⟩
/- _law_few_signs -/
def b6 : S :=
    (.seq (.asg 1 (.call 2 [some 0, none] (.cons (.v 0) (.cons (.c (.int 25)) .nil))))
    (.ret (.op .ix false (.lst (.cons (.c (.str [46, 97])) (.cons (.c (.str [97, 98])) (.cons (.c (.str [97, 98, 122])) (.cons (.c (.str [46, 97, 98])) (.cons (.slc true true (.call 5 [] .nil) (.v 1) (.op .add false (.v 1) (.c (.int 3)))) .nil)))))) (.call 2 [some 0, none] (.cons (.v 0) (.cons (.c (.int 5)) .nil))))))
def f6 : Fn := ⟨[true], 2, b6⟩
/- _law_thing -/
def b9 : S :=
    (.seq (.asg 2 (.call 2 [some 0, none] (.cons (.v 0) (.cons (.c (.int 9)) .nil))))
    (.seq (.ite (.or (.op .lt false (.v 2) (.c (.int 6))) (.op .eq false (.v 1) (.c (.int 0))))
    (.seq (.asg 4 (.lst (.cons (.c (.int 0)) (.cons (.c (.int 1)) (.cons (.un .neg (.c (.int 1))) (.cons (.c (.bl true)) (.cons (.c (.bl false)) (.cons (.c .non) (.cons (.c (.str [])) (.cons (.c (.str [97])) (.cons (.c (.str [97, 98])) (.cons (.c (.str [65])) (.cons (.c (.str [97, 47, 98])) (.cons (.c (.str [42, 42])) (.cons (.c (.str [97, 98, 99, 100, 101, 102, 103, 104, 105])) (.cons (.op .pow false (.c (.int 10)) (.c (.int 39))) (.cons (.c (.str [110, 111, 110, 101])) (.cons (.c (.str [111, 102])) (.cons (.c (.str [112, 117, 115, 104])) .nil)))))))))))))))))))
      (.ret (.call 3 [some 0, none] (.cons (.v 0) (.cons (.op .add false (.v 4) (.fz (.lst (.cons (.tup .nil) (.cons (.lst .nil) (.cons (.tup (.cons (.c (.str [110, 111, 110, 101])) .nil)) .nil)))))) .nil)))))
    .skip)
    (.seq (.asg 3 (.comp (.call 9 [some 0, none] (.cons (.v 0) (.cons (.op .sub false (.v 1) (.c (.int 1))) .nil))) (.nm 5) (.rng (.call 2 [some 0, none] (.cons (.v 0) (.cons (.c (.int 4)) .nil)))) (.c (.bl true)) [5]))
    (.ret (.op .ix false (.lst (.cons (.fr 3) (.cons (.un .tuple (.v 3)) (.cons (.un .tuple (.v 3)) .nil)))) (.op .sub false (.v 2) (.c (.int 6))))))))
def f9 : Fn := ⟨[true, false], 6, b9⟩
/- _law_truly -/
def b10 : S :=
    (.ret (.and (.un .isBool (.v 0)) (.op .eq false (.v 0) (.v 1))))
def f10 : Fn := ⟨[false, false], 2, b10⟩
/- is_part -/
def b15 : S :=
    (.seq (.ite (.op .eq false (.v 0) (.c (.str [42, 42])))
    (.ret (.c (.bl true)))
    .skip)
    (.seq (.ite (.or (.un .not (.chain .le .le (.c (.int 1)) (.un .len (.v 0)) (.c (.int 8)))) (.op .isin false (.op .add false (.c (.str [42])) (.c (.str [42]))) (.v 0)))
    (.ret (.c (.bl false)))
    .skip)
    (.ret (.un .all (.comp (.op .isin false (.v 1) (.op .add false (.op .add false (.c (.str [46, 97, 98, 99, 100, 101, 102, 103, 104, 105, 106, 107, 108, 109, 110, 111, 112, 113, 114, 115, 116, 117, 118, 119, 120, 121, 122])) (.c (.str [42]))) (.c (.str [63])))) (.nm 1) (.of (.v 0)) (.c (.bl true)) [1])))))
def f15 : Fn := ⟨[false], 2, b15⟩
/- is_pattern -/
def b16 : S :=
    (.seq (.ite (.un .not (.un .isStr (.v 0)))
    (.ret (.c (.bl false)))
    .skip)
    (.seq (.asg 1 (.op .split false (.v 0) (.c (.str [47]))))
    (.ret (.and (.op .le false (.un .len (.v 1)) (.c (.int 5))) (.un .all (.comp (.call 15 [none] (.cons (.fr 2) .nil)) (.nm 2) (.of (.v 1)) (.c (.bl true)) [2]))))))
def f16 : Fn := ⟨[false], 3, b16⟩
/- _law_marks -/
def b17 : S :=
    (.seq (.asg 3 (.c (.str [])))
    (.seq (.for (.nm 4) (.rng (.op .add false (.c (.int 1)) (.fz (.call 2 [some 0, none] (.cons (.v 0) (.cons (.fr 2) .nil))))))
    (.seq (.asg 5 (.call 3 [some 0, none] (.cons (.v 0) (.cons (.lst (.cons (.val (.op .ix false (.v 1) (.call 2 [some 0, none] (.cons (.v 0) (.cons (.un .len (.v 1)) .nil))))) (.cons (.val (.op .ix false (.v 1) (.c (.int 0)))) (.cons (.c (.str [42])) (.cons (.c (.str [63])) .nil))))) .nil))))
      (.ite (.or (.op .ne false (.v 5) (.c (.str [42]))) (.op .ne false (.slc true false (.v 3) (.un .neg (.c (.int 1))) (.c .non)) (.c (.str [42]))))
      (.asg 3 (.op .add false (.v 3) (.v 5)))
      .skip)))
    (.ret (.mov 3))))
def f17 : Fn := ⟨[true, false, false], 6, b17⟩
/- _law_pattern -/
def b18 : S :=
    (.seq (.asg 4 (.lst .nil))
    (.seq (.for (.nm 5) (.rng (.op .add false (.c (.int 1)) (.fz (.call 2 [some 0, none] (.cons (.v 0) (.cons (.fr 2) .nil))))))
    (.ex (.mu .append 4 (.cons (.ite (.op .eq false (.call 2 [some 0, none] (.cons (.v 0) (.cons (.c (.int 4)) .nil))) (.c (.int 0))) (.c (.str [42, 42])) (.call 17 [some 0, none, none] (.cons (.v 0) (.cons (.fr 1) (.cons (.fr 3) .nil))))) .nil))))
    (.ret (.op .join false (.c (.str [47])) (.v 4)))))
def f18 : Fn := ⟨[true, false, false, false], 6, b18⟩
/- _law_is_pattern -/
def b19 : S :=
    (.seq (.ite (.or (.un .not (.un .isStr (.v 0))) (.op .gt false (.un .len (.op .split false (.v 0) (.c (.str [47])))) (.c (.int 5))))
    (.ret (.c (.bl false)))
    .skip)
    (.seq (.for (.nm 1) (.of (.op .split false (.v 0) (.c (.str [47]))))
    (.ite (.op .ne false (.v 1) (.c (.str [42, 42])))
      (.seq (.ite (.or (.op .eq false (.v 1) (.c (.str []))) (.or (.op .gt false (.un .len (.v 1)) (.c (.int 8))) (.op .isin false (.c (.str [42, 42])) (.v 1))))
        (.ret (.c (.bl false)))
        .skip)
        (.ite (.op .ne false (.comp (.fr 2) (.nm 2) (.of (.v 1)) (.op .notin false (.v 2) (.op .add false (.fz (.call 5 [] .nil)) (.c (.str [42, 63])))) [2]) (.lst .nil))
        (.ret (.c (.bl false)))
        .skip))
      .skip))
    (.ret (.c (.bl true)))))
def f19 : Fn := ⟨[false], 3, b19⟩
/- law -/
def b20 : S :=
    (.seq (.for (.nm 1) (.rng (.op .max false (.c (.int 1)) (.op .min false (.c (.int 30)) (.un .len (.v 0)))))
    (.seq (.asg 2 (.call 4 [none, none] (.cons (.fr 0) (.cons (.fr 1) .nil))))
      (.seq (.asg 3 (.call 6 [some 2] (.cons (.v 2) .nil)))
      (.seq (.asg 4 (.call 18 [some 2, none, none, none] (.cons (.v 2) (.cons (.fr 3) (.cons (.c (.int 6)) (.cons (.c (.int 9)) .nil))))))
      (.seq (.asg 5 (.call 2 [some 2, none] (.cons (.v 2) (.cons (.op .add false (.un .len (.v 4)) (.c (.int 1))) .nil))))
      (.seq (.asg 6 (.call 3 [some 2, none] (.cons (.v 2) (.cons (.lst (.cons (.c (.str [42])) (.cons (.c (.str [42, 42])) (.cons (.c (.str [47])) (.cons (.c (.str [63])) (.cons (.c (.str [46])) (.cons (.c (.str [65])) (.cons (.c (.str [32])) (.cons (.c (.str [47, 47])) (.cons (.c (.str [97])) (.cons (.c (.str [42, 42, 42])) .nil))))))))))) .nil))))
      (.seq (.asg 7 (.lst (.cons (.fr 4) (.cons (.op .add false (.op .add false (.slc false true (.v 4) (.c .non) (.v 5)) (.v 6)) (.slc true false (.v 4) (.v 5) (.c .non))) (.cons (.op .add false (.slc false true (.v 4) (.c .non) (.v 5)) (.slc true false (.v 4) (.op .add false (.v 5) (.c (.int 1))) (.c .non))) (.cons (.op .add false (.v 4) (.c (.str [47, 42, 42]))) (.cons (.op .add false (.c (.str [42, 42, 47])) (.v 4)) .nil)))))))
      (.seq (.asg 7 (.op .add false (.v 7) (.fz (.lst (.cons (.call 9 [some 2, none] (.cons (.v 2) (.cons (.c (.int 2)) .nil))) (.cons (.lst (.cons (.fr 4) .nil)) (.cons (.tup (.cons (.fr 4) .nil)) (.cons (.op .add false (.v 4) (.op .mul false (.op .ix false (.v 3) (.c (.int 0))) (.op .sub false (.c (.int 8)) (.op .mod false (.un .len (.v 4)) (.c (.int 8)))))) (.cons (.c (.str [])) .nil)))))))))
      (.for (.nm 8) (.of (.v 7))
      (.ite (.un .not (.call 10 [none, none] (.cons (.call 16 [none] (.cons (.fr 8) .nil)) (.cons (.call 19 [none] (.cons (.fr 8) .nil)) .nil))))
        (.ret (.c (.bl false)))
        .skip))))))))))
    (.ret (.c (.bl true))))
def f20 : Fn := ⟨[false], 9, b20⟩
end Z


set_option Elab.async false
set_option linter.all false
set_option maxRecDepth 100000
namespace Z
open PySem PySem.Spec PyProof.Rows L2
def cs : List (Str × D) := [("SIGNS", .str [46, 97, 98, 99, 100, 101, 102, 103, 104, 105, 106, 107, 108, 109, 110, 111, 112, 113, 114, 115, 116, 117, 118, 119, 120, 121, 122]), ("STROKE", .str [47]), ("ANY_PARTS", .str [42, 42]), ("ANY_SIGNS", .str [42]), ("ONE_SIGN", .str [63]), ("MOST_PARTS", .int 5), ("MOST_MARKS", .int 8)]
def topS (i : Nat) : Stmt := PySem.Challenge.pw_lookdue_k03_what_is_a_pattern.main.body.getD i (.Pass ⟨0, 0, 0, 0⟩)
def e0 : Ent := ⟨15, "is_part", topS 9, ["part", "mark"], ["part"], [false], b15⟩
def e1 : Ent := ⟨16, "is_pattern", topS 10, ["thing", "parts", "part"], ["thing"], [false], b16⟩
def e2 : Ent := ⟨4, "_law_draws", topS 12, ["_law_script", "_law_k", "_law_cell"], ["_law_script", "_law_k"], [false, false], b4⟩
def e3 : Ent := ⟨2, "_law_draw", topS 13, ["_law_draws_here", "_law_many", "_law_found", "_law_wide"], ["_law_draws_here", "_law_many"], [true, false], b2⟩
def e4 : Ent := ⟨5, "_law_signs", topS 14, [], [], [], b5⟩
def e5 : Ent := ⟨6, "_law_few_signs", topS 15, ["_law_draws_here", "_law_first"], ["_law_draws_here"], [true], b6⟩
def e6 : Ent := ⟨3, "_law_of", topS 16, ["_law_draws_here", "_law_some"], ["_law_draws_here", "_law_some"], [true, false], b3⟩
def e7 : Ent := ⟨17, "_law_marks", topS 17, ["_law_draws_here", "_law_signs_here", "_law_most", "_law_found", "_law_k", "_law_mark"], ["_law_draws_here", "_law_signs_here", "_law_most"], [true, false, false], b17⟩
def e8 : Ent := ⟨18, "_law_pattern", topS 18, ["_law_draws_here", "_law_signs_here", "_law_parts", "_law_most", "_law_found", "_law_k"], ["_law_draws_here", "_law_signs_here", "_law_parts", "_law_most"], [true, false, false, false], b18⟩
def e9 : Ent := ⟨9, "_law_thing", topS 19, ["_law_draws_here", "_law_deep", "_law_way", "_law_parts", "_law_some", "_law_k"], ["_law_draws_here", "_law_deep"], [true, false], b9⟩
def e10 : Ent := ⟨10, "_law_truly", topS 20, ["_law_found", "_law_due"], ["_law_found", "_law_due"], [false, false], b10⟩
def e11 : Ent := ⟨19, "_law_is_pattern", topS 21, ["_law_thing_here", "_law_part", "_law_mark"], ["_law_thing_here"], [false], b19⟩
def e12 : Ent := ⟨20, "law", topS 22, ["_law_script", "_law_k", "_law_draws_here", "_law_signs_here", "_law_text", "_law_at", "_law_put", "_law_things", "_law_thing_here"], ["_law_script"], [false], b20⟩
def tab : List Ent := [e0, e1, e2, e3, e4, e5, e6, e7, e8, e9, e10, e11, e12]
def prg : Nat → Option Fn := tabP tab
instance : Has prg 15 f15 := ⟨rfl⟩
theorem ok0 : EntOk ⟨cs, tabF tab⟩ e0 := ⟨⟨rfl, rfl, rfl, by decide +kernel, rfl, by decide +kernel, by decide +kernel⟩, by kernel_rfl, rfl, by decide +kernel⟩
instance : Has prg 16 f16 := ⟨rfl⟩
theorem ok1 : EntOk ⟨cs, tabF tab⟩ e1 := ⟨⟨rfl, rfl, rfl, by decide +kernel, rfl, by decide +kernel, by decide +kernel⟩, by kernel_rfl, rfl, by decide +kernel⟩
instance : Has prg 4 f4 := ⟨rfl⟩
theorem ok2 : EntOk ⟨cs, tabF tab⟩ e2 := ⟨⟨rfl, rfl, rfl, by decide +kernel, rfl, by decide +kernel, by decide +kernel⟩, by kernel_rfl, rfl, by decide +kernel⟩
instance : Has prg 2 f2 := ⟨rfl⟩
theorem ok3 : EntOk ⟨cs, tabF tab⟩ e3 := ⟨⟨rfl, rfl, rfl, by decide +kernel, rfl, by decide +kernel, by decide +kernel⟩, by kernel_rfl, rfl, by decide +kernel⟩
instance : Has prg 5 f5 := ⟨rfl⟩
theorem ok4 : EntOk ⟨cs, tabF tab⟩ e4 := ⟨⟨rfl, rfl, rfl, by decide +kernel, rfl, by decide +kernel, by decide +kernel⟩, by kernel_rfl, rfl, by decide +kernel⟩
instance : Has prg 6 f6 := ⟨rfl⟩
theorem ok5 : EntOk ⟨cs, tabF tab⟩ e5 := ⟨⟨rfl, rfl, rfl, by decide +kernel, rfl, by decide +kernel, by decide +kernel⟩, by kernel_rfl, rfl, by decide +kernel⟩
instance : Has prg 3 f3 := ⟨rfl⟩
theorem ok6 : EntOk ⟨cs, tabF tab⟩ e6 := ⟨⟨rfl, rfl, rfl, by decide +kernel, rfl, by decide +kernel, by decide +kernel⟩, by kernel_rfl, rfl, by decide +kernel⟩
instance : Has prg 17 f17 := ⟨rfl⟩
theorem ok7 : EntOk ⟨cs, tabF tab⟩ e7 := ⟨⟨rfl, rfl, rfl, by decide +kernel, rfl, by decide +kernel, by decide +kernel⟩, by kernel_rfl, rfl, by decide +kernel⟩
instance : Has prg 18 f18 := ⟨rfl⟩
theorem ok8 : EntOk ⟨cs, tabF tab⟩ e8 := ⟨⟨rfl, rfl, rfl, by decide +kernel, rfl, by decide +kernel, by decide +kernel⟩, by kernel_rfl, rfl, by decide +kernel⟩
instance : Has prg 9 f9 := ⟨rfl⟩
theorem ok9 : EntOk ⟨cs, tabF tab⟩ e9 := ⟨⟨rfl, rfl, rfl, by decide +kernel, rfl, by decide +kernel, by decide +kernel⟩, by kernel_rfl, rfl, by decide +kernel⟩
instance : Has prg 10 f10 := ⟨rfl⟩
theorem ok10 : EntOk ⟨cs, tabF tab⟩ e10 := ⟨⟨rfl, rfl, rfl, by decide +kernel, rfl, by decide +kernel, by decide +kernel⟩, by kernel_rfl, rfl, by decide +kernel⟩
instance : Has prg 19 f19 := ⟨rfl⟩
theorem ok11 : EntOk ⟨cs, tabF tab⟩ e11 := ⟨⟨rfl, rfl, rfl, by decide +kernel, rfl, by decide +kernel, by decide +kernel⟩, by kernel_rfl, rfl, by decide +kernel⟩
instance : Has prg 20 f20 := ⟨rfl⟩
theorem ok12 : EntOk ⟨cs, tabF tab⟩ e12 := ⟨⟨rfl, rfl, rfl, by decide +kernel, rfl, by decide +kernel, by decide +kernel⟩, by kernel_rfl, rfl, by decide +kernel⟩
end Z


set_option Elab.async false
set_option linter.all false
set_option maxRecDepth 100000
namespace Z
theorem has (P : Nat → Option Fn) (i : Nat) (f : Fn) [h : Has P i f] : P i = some f := h.eq
/-- a place of draws -/
def Dr (d : D) : Prop := ∃ a b : Int, d = .lst true [.int a, .int b] ∧ 0 ≤ a ∧ 0 ≤ b
/-- all are so -/
def All (p : D → Prop) (xs : List D) : Prop := ∀ x ∈ xs, p x
theorem at_in {xs : List D} {i : Int} (h0 : 0 ≤ i) (h1 : i < xs.length) : ∃ x, at_ xs i = some x ∧ x ∈ xs := by
  have h : i.toNat < xs.length := by omega
  refine ⟨xs[i.toNat], ?_, List.getElem_mem _⟩
  unfold at_ ixOf
  rw [if_pos h0, if_pos h1]
  simp [h]
theorem ats_in {xs : List Nat} {i : Int} (h0 : 0 ≤ i) (h1 : i < xs.length) : ∃ x, at_ xs i = some x ∧ x ∈ xs := by
  have h : i.toNat < xs.length := by omega
  refine ⟨xs[i.toNat], ?_, List.getElem_mem _⟩
  unfold at_ ixOf
  rw [if_pos h0, if_pos h1]
  simp [h]
theorem own_mem {xs : List D} (h : ownL xs = false) {x : D} (m : x ∈ xs) : x.own = false := by
  induction xs with
  | nil => cases m
  | cons y ys ih =>
    simp at h
    rcases List.mem_cons.mp m with m | m
    · subst m; exact h.1
    · exact ih h.2 m
@[simp] theorem endOf_f {d : D} : endOf false d = some none := rfl
@[simp] theorem endOf_t {i : Int} : endOf true (.int i) = some (some i) := rfl
@[simp] theorem slice3_s {p q : Bool} {s : List Nat} {l h : D} : slice3 p q (.str s) l h = (endOf p l).bind fun l => (endOf q h).bind fun h => if s.length ≤ SL then some (.str (cut s l h)) else none := rfl
theorem cut_len {α : Type} {xs : List α} {l h : Option Int} : (cut xs l h).length ≤ xs.length := by
  unfold cut
  rw [List.length_take, List.length_drop]
  omega
/-- a text of at most n signs -/
def Tx (n : Nat) (d : D) : Prop := ∃ s, d = .str s ∧ s.length ≤ n
theorem strs_ok {n : Nat} : ∀ {xs : List D}, All (Tx n) xs → ∃ ss, strsOf xs = some ss ∧ ss.length = xs.length ∧ (ss.map List.length).sum ≤ xs.length * n
  | [], _ => ⟨[], rfl, rfl, by simp⟩
  | x :: xs, h => by
    obtain ⟨s, rfl, hs⟩ := h x List.mem_cons_self
    obtain ⟨ss, e1, e2, e3⟩ := strs_ok (xs := xs) fun y hy => h y (List.mem_cons_of_mem _ hy)
    refine ⟨s :: ss, by simp [strsOf, e1], by simp [e2], ?_⟩
    simp only [List.map_cons, List.sum_cons, List.length_cons, Nat.add_mul]
    omega
theorem joined_len {sep : List Nat} : ∀ ss : List (List Nat), (joined sep ss).length ≤ (ss.map List.length).sum + ss.length * sep.length
  | [] => by simp [joined]
  | [x] => by simp [joined]
  | x :: y :: r => by
    have ih := joined_len (sep := sep) (y :: r)
    simp only [joined, List.length_append, List.map_cons, List.sum_cons, List.length_cons, Nat.add_mul] at ih ⊢
    omega
theorem join_ok {n m : Nat} {sep : List Nat} {o : Bool} {xs : List D} (h : All (Tx n) xs) (hl : xs.length ≤ m) (hb : m * n + m * sep.length ≤ SL) : ∃ s, op2 .join (.str sep) (.lst o xs) = some (.str s) ∧ s.length ≤ m * n + m * sep.length := by
  obtain ⟨ss, e1, e2, e3⟩ := strs_ok h
  have h1 : xs.length * n ≤ m * n := Nat.mul_le_mul_right _ hl
  have h2 : ss.length * sep.length ≤ m * sep.length := Nat.mul_le_mul_right _ (by omega)
  refine ⟨joined sep ss, ?_, Nat.le_trans (joined_len ss) (by omega)⟩
  simp only [o_join, e1, Option.bind_some]
  rw [if_pos (by omega)]
theorem All.nil {p : D → Prop} : All p [] := fun x h => nomatch h
theorem All.snoc {p : D → Prop} {xs : List D} {x : D} (h : All p xs) (hx : p x) : All p (xs ++ [x]) := fun y hy => by
  rcases List.mem_append.mp hy with q | q
  · exact h y q
  · rw [List.mem_singleton.mp q]; exact hx
theorem rng1_ok {i : Int} (h1 : 0 ≤ i) (h2 : i ≤ 1000000) : rng1 i = some (rangeUp 0 i.toNat) := by
  unfold rng1
  rw [if_pos (by omega)]
abbrev SLv : Nat := 16777216
@[simp] theorem SL_eq : SL = 16777216 := rfl
def sgn : List Nat := [46, 97, 98, 99, 100, 101, 102, 103, 104, 105, 106, 107, 108, 109, 110, 111, 112, 113, 114, 115, 116, 117, 118, 119, 120, 121, 122]
def lets : List Nat := [97, 98, 99, 100, 101, 102, 103, 104, 105, 106, 107, 108, 109, 110, 111, 112, 113, 114, 115, 116, 117, 118, 119, 120, 121, 122]
theorem cut_n {s : List Nat} {i : Int} {n : Nat} (h0 : 0 ≤ i) (h1 : i.toNat + n ≤ s.length) : (cut s (some i) (some (i + n))).length = n := by
  unfold cut sIx
  simp only [List.length_take, List.length_drop]
  rw [if_neg (by omega), if_neg (by omega)]
  omega
section
variable {d : D}
/-- what is asked: no owned thing, no long text -/
def Th (d : D) : Prop := d.own = false ∧ ∀ s, d = .str s → s.length ≤ 1000
theorem th_str {s : List Nat} (h : s.length ≤ 1000) : Th (.str s) := ⟨rfl, fun t e => by cases e; exact h⟩
theorem tx_th {n : Nat} {d : D} (hn : n ≤ 1000) (h : Tx n d) : Th d := by
  obtain ⟨s, rfl, h⟩ := h
  exact th_str (by omega)
theorem th_frz {d : D} (h : Th d) : Th d.frz := by
  refine ⟨frz_own d, fun s e => ?_⟩
  cases d with
  | str t => exact h.2 s e
  | _ => cases e
theorem th_no {d : D} (h : d.own = false) (hs : d.isStrB = false) : Th d := ⟨h, fun s e => by subst e; cases hs⟩
theorem all_cons {p : D → Prop} {x : D} {xs : List D} (h : p x) (hs : All p xs) : All p (x :: xs) := fun y hy => by
  rcases List.mem_cons.mp hy with q | q
  · subst q; exact h
  · exact hs y q
end
def chrs (s : List Nat) : List D := s.map fun c => .str [c]
theorem chrs_own : ∀ s : List Nat, ownL (chrs s) = false
  | [] => rfl
  | c :: s => chrs_own s
theorem chrs_len (s : List Nat) : (chrs s).length = s.length := List.length_map ..
theorem chrs_mem {s : List Nat} {x : D} (h : x ∈ chrs s) : ∃ c, x = .str [c] ∧ c ∈ s := by
  obtain ⟨c, hc, rfl⟩ := List.mem_map.mp h
  exact ⟨c, rfl, hc⟩
/-- is the sign in t -/
def inB (t : List Nat) : D → Bool
  | .str s => infixB s t
  | _ => false
@[simp] theorem inOf_s {s t : List Nat} : inOf (.str s) (.str t) = some (infixB s t) := rfl
theorem truths_bl {α : Type} (f : α → Bool) : ∀ xs : List α, truths (xs.map fun x => .bl (f x)) = some (xs.map f)
  | [] => rfl
  | x :: xs => by simp [truths, truths_bl f xs]
theorem fm_some {α β : Type} (f : α → β) : ∀ xs : List α, xs.filterMap (fun x => some (f x)) = xs.map f
  | [] => rfl
  | x :: xs => by simp [fm_some f xs]
section
theorem own_i {x : D} (h : x.isStrB = true) : ∃ s, x = .str s := by cases x <;> first | exact ⟨_, rfl⟩ | cases h
end
theorem eqOf_nil {o p : Bool} {xs : List D} (h : depL xs ≤ 63) : eqOf (.lst o xs) (.lst p []) = some xs.isEmpty := by
  unfold eqOf
  rw [if_pos (by simp [D.dep, depL]; omega)]
  cases xs <;> rfl
theorem rangeUp_mem : ∀ (n : Nat) (lo : Int) (x : D), x ∈ rangeUp lo n → ∃ j, x = .int j ∧ lo ≤ j ∧ j < lo + n
  | n + 1, lo, x, h => by
    rcases List.mem_cons.mp h with q | q
    · exact ⟨lo, q, by omega, by omega⟩
    · obtain ⟨j, e, h1, h2⟩ := rangeUp_mem n (lo + 1) x q
      exact ⟨j, e, by omega, by omega⟩
theorem frz_ints : ∀ ns : List Int, frzL (ns.map .int) = ns.map .int
  | [] => rfl
  | n :: ns => by simp [frz_ints ns]
mutual
theorem frz_frz : ∀ d : D, d.frz.frz = d.frz
  | .non => rfl
  | .bl _ => rfl
  | .int _ => rfl
  | .str _ => rfl
  | .tup xs => by simp only [D.frz, frzL_frz xs]
  | .lst _ xs => by simp only [D.frz, frzL_frz xs]
  | .dct _ xs => by simp only [D.frz, frzP_frz xs]
  | .set _ xs => by simp only [D.frz, frzL_frz xs]
  | .ins _ _ xs => by simp only [D.frz, frzF_frz xs]
theorem frzL_frz : ∀ xs : List D, frzL (frzL xs) = frzL xs
  | [] => rfl
  | x :: xs => by simp only [frzL, frz_frz x, frzL_frz xs]
theorem frzP_frz : ∀ xs : List (D × D), frzP (frzP xs) = frzP xs
  | [] => rfl
  | (x, y) :: xs => by simp only [frzP, frz_frz x, frz_frz y, frzP_frz xs]
theorem frzF_frz : ∀ xs : List (Nat × D), frzF (frzF xs) = frzF xs
  | [] => rfl
  | (x, y) :: xs => by simp only [frzF, frz_frz y, frzF_frz xs]
end
theorem all_own : ∀ {xs : List D}, All Th xs → ownL xs = false
  | [], _ => rfl
  | x :: xs, h => by
    rw [own_cons, (h x List.mem_cons_self).1, all_own fun y hy => h y (List.mem_cons_of_mem _ hy)]
    rfl
end Z

set_option Elab.async false
set_option linter.all false
set_option maxRecDepth 100000
namespace Z
def isDraw (P : Nat → Option Fn) (f : Nat) : Prop := P f = some ⟨[true, false], 4, b2⟩
theorem draw_ok {P : Nat → Option Fn} {f : Nat} (hP : isDraw P f) {k : Nat} {d : D} {m : Int} (hd : Dr d) (h1 : 1 ≤ m) (h2 : m ≤ 268435456) :
    (run P (k + 1) f [d, .int m]).Ok fun r io => ∃ r' d', r = .int r' ∧ 0 ≤ r' ∧ r' < m ∧ Dr d' ∧ io = [some d', none] := by
  obtain ⟨a, b, rfl, ha, hb⟩ := hd
  refine cok_run hP rfl ?_
  have g1 : 0 < m := by omega
  have g2 : m < 1073741824 := by omega
  have e1 : 0 ≤ a % m := Int.emod_nonneg _ (by omega)
  have e2 : a % m < m := Int.emod_lt_of_pos _ g1
  have e3 : 0 ≤ a / m := Int.ediv_nonneg ha (by omega)
  simp [b2, g1, g2]
  refine ⟨fun h => ?_, fun h => ?_⟩
  · exact ⟨e1, e2, _, _, rfl, e3, hb⟩
  · refine w_wh (fun n s => ∃ (w f b' : Int), s = [some (.lst true [.int a, .int b']), some (.int m), some (.int f), some (.int w)] ∧ 0 ≤ b' ∧ 0 ≤ f ∧ 1 ≤ w ∧ (n = 1 → w = 1) ∧ (n = 0 → 268435456 ≤ w) ∧ n ≤ 1) 1 (by decide) ⟨1, 0, b, rfl, hb, by omega, by omega, fun _ => rfl, by omega, by omega⟩ ?_
    intro n s hs
    obtain ⟨w, f, b', rfl, i1, i2, i3, i4, i5, i6⟩ := hs
    simp [g1]
    refine ⟨fun hw => ⟨0, by omega, mulOk_b (by decide), mulOk_b (by decide), mulOk_a ?_, mulOk_b (by decide), _, _, _, ⟨rfl, rfl, rfl⟩, ?_, ?_, by omega, by omega, by omega, by omega⟩, fun hw => ⟨Int.emod_nonneg _ (by omega), Int.emod_lt_of_pos _ g1, _, _, rfl, ha, i1⟩⟩
    · omega
    · omega
    · refine Int.add_nonneg (by omega) (Int.ediv_nonneg (Int.emod_nonneg _ (by decide)) (by decide))
def isOf (P : Nat → Option Fn) (f : Nat) : Prop := P f = some ⟨[true, false], 2, b3⟩
/-- one of a list -/
theorem of_list {P : Nat → Option Fn} {f : Nat} (h2 : isDraw P 2) (hP : isOf P f) {k : Nat} {d : D} {o : Bool} {xs : List D} (hd : Dr d) (h1 : xs ≠ []) (hl : xs.length ≤ 1000) (hn : ownL xs = false) :
    (run P (k + 2) f [d, .lst o xs]).Ok fun r io => ∃ d', r ∈ xs ∧ Dr d' ∧ io = [some d', none] := by
  refine cok_run hP rfl ?_
  simp [b3]
  have hp : 0 < xs.length := List.length_pos_iff.mpr h1
  refine (draw_ok h2 hd (by omega) (by omega)).mono fun r io h => ?_
  obtain ⟨r', d', rfl, q1, q2, hd', rfl⟩ := h
  obtain ⟨x, e, m⟩ := at_in q1 q2
  simp [e]
  exact ⟨own_mem hn m, m, hd'⟩

section
variable {P : Nat → Option Fn} {k : Nat} {d : D}
theorem h2 [Has P 2 f2] : isDraw P 2 := has P 2 f2
theorem h3 [Has P 3 f3] : isOf P 3 := has P 3 f3
/-- one sign of a text -/
theorem of_str [Has P 2 f2] [Has P 3 f3] {s : List Nat} (hd : Dr d) (h1 : s ≠ []) (hl : s.length ≤ 1000) :
    (run P (k + 2) 3 [d, .str s]).Ok fun r io => ∃ d' c, r = .str [c] ∧ c ∈ s ∧ Dr d' ∧ io = [some d', none] := by
  refine cok_run h3 rfl ?_
  have hp : 0 < s.length := List.length_pos_iff.mpr h1
  have hs : s.length ≤ 16777216 := by omega
  simp [b3, hs]
  refine (draw_ok h2 hd (by omega) (by omega)).mono fun r io h => ?_
  obtain ⟨r', d', rfl, q1, q2, hd', rfl⟩ := h
  obtain ⟨x, e, m⟩ := ats_in q1 q2
  simp [e, hs]
  exact ⟨m, hd'⟩
theorem at_ints {ns : List Int} {i : Int} (h0 : 0 ≤ i) (h1 : i < ns.length) : ∃ x, at_ (ns.map D.int) i = some (.int x) := by
  obtain ⟨x, e, m⟩ := at_in (xs := ns.map D.int) h0 (by simpa using h1)
  obtain ⟨y, _, rfl⟩ := List.mem_map.mp m
  exact ⟨y, e⟩
theorem draws_ok [Has P 4 f4] {ns : List Int} {o : Bool} {j : Int} (hj : 0 ≤ j) (hn : ns.length ≤ 63) : (run P (k + 1) 4 [.lst o (ns.map .int), .int j]).Ok fun r io => Dr r ∧ io = [none, none] := by
  refine cok_run (fn := ⟨[false, false], 3, b4⟩) (has P 4 f4) rfl ?_
  refine w_cut (fun s => s = [some (.lst o (ns.map .int)), some (.int j), some (.int (15485863 * j))]) ?_ fun s e => ?_
  · simp [mulOk_a (i := 15485863) (j := j) (by decide)]
  subst e
  refine w_cut (fun s => ∃ c, s = [some (.lst o (ns.map .int)), some (.int j), some (.int c)] ∧ 0 ≤ c) ?_ fun s h => ?_
  · simp
    refine ⟨fun h => ?_, fun h => ⟨fun h2 => ?_, fun h2 => by omega⟩⟩
    · obtain ⟨x, e⟩ := at_ints hj h
      simp [e]
      refine ⟨by decide, by decide, by decide, by decide, Int.emod_nonneg _ (by decide)⟩
    · obtain ⟨x, e⟩ := at_ints (ns := ns) (i := j % ns.length) (Int.emod_nonneg _ (by omega)) (Int.emod_lt_of_pos _ (by omega))
      refine ⟨h2, _, e, _, rfl, mulOk_a (by decide), _, rfl, _, rfl, ?_⟩
      have := Int.emod_nonneg x (show (1000000000000000 : Int) ≠ 0 by decide)
      omega
  · obtain ⟨c, rfl, hc⟩ := h
    simp
    have hb : ∀ b : Bool, (b2i b).natAbs < 18446744073709551616 ∧ 0 ≤ b2i b := by decide
    refine ⟨mulOk_b (hb _).1, mulOk_b (by decide), mulOk_a (by decide), _, _, rfl, Int.mul_nonneg hc (hb _).2, by omega⟩
end
end Z

set_option Elab.async false
set_option linter.all false
set_option maxRecDepth 100000
namespace Z
section
variable {P : Nat → Option Fn} {k : Nat} {d : D}
theorem signs_ok [Has P 5 f5] : (run P (k + 1) 5 []).Ok fun r io => r = .str sgn ∧ io = [] := by
  refine cok_run (fn := ⟨[], 0, b5⟩) (has P 5 f5) rfl ?_
  simp [b5, sgn]
theorem few_ok [Has P 2 f2] [Has P 5 f5] [Has P 6 f6] (hd : Dr d) : (run P (k + 2) 6 [d]).Ok fun r io => ∃ g d', r = .str g ∧ g ≠ [] ∧ g.length ≤ 3 ∧ Dr d' ∧ io = [some d'] := by
  refine cok_run (fn := ⟨[true], 2, b6⟩) (has P 6 f6) rfl ?_
  simp [b6]
  refine (draw_ok h2 hd (by omega) (by omega)).mono fun r io h => ?_
  obtain ⟨r', d', rfl, q1, q2, hd', rfl⟩ := h
  simp
  refine signs_ok.mono fun r io h => ?_
  obtain ⟨rfl, rfl⟩ := h
  have hs : sgn.length = 27 := rfl
  simp [hs]
  refine (draw_ok h2 hd' (by omega) (by omega)).mono fun r io h => ?_
  obtain ⟨r2, d2, rfl, p1, p2, hd2, rfl⟩ := h
  obtain ⟨x, e, m⟩ := at_in (xs := [.str [46, 97], .str [97, 98], .str [97, 98, 122], .str [46, 97, 98], .str (cut sgn (some r') (some (r' + 3)))]) p1 (by simpa using p2)
  have hc : (cut sgn (some r') (some (r' + 3))).length = 3 := cut_n (n := 3) q1 (by rw [hs]; omega)
  simp [e]
  simp only [List.mem_cons, List.not_mem_nil, or_false] at m
  rcases m with rfl | rfl | rfl | rfl | rfl
  · exact ⟨_, rfl, by simp, by simp, hd2⟩
  · exact ⟨_, rfl, by simp, by simp, hd2⟩
  · exact ⟨_, rfl, by simp, by simp, hd2⟩
  · exact ⟨_, rfl, by simp, by simp, hd2⟩
  · exact ⟨_, rfl, fun z => by rw [z] at hc; simp at hc, by omega, hd2⟩
end
end Z

set_option Elab.async false
set_option linter.all false
set_option maxRecDepth 100000
namespace Z
theorem parts_bd : ∀ s : List Nat, (parts 47 s).length ≤ s.length + 1 ∧ ∀ p ∈ parts 47 s, p.length ≤ s.length
  | [] => ⟨by decide, fun p h => by simp [parts] at h; subst h; simp⟩
  | x :: xs => by
    obtain ⟨h1, h2⟩ := parts_bd xs
    have ep : parts 47 (x :: xs) = if x = 47 then [] :: parts 47 xs else match parts 47 xs with | [] => [[x]] | p :: ps => (x :: p) :: ps := rfl
    rw [ep]
    by_cases hx : x = 47
    · rw [if_pos hx]
      refine ⟨by simp; omega, fun p hp => ?_⟩
      rcases List.mem_cons.mp hp with q | q
      · subst q; simp
      · have := h2 p q; simp; omega
    · rw [if_neg hx]
      cases e : parts 47 xs with
      | nil => exact ⟨by simp, fun p hp => by simp at hp; subst hp; simp⟩
      | cons q qs =>
        rw [e] at h1 h2
        refine ⟨by simp at h1 ⊢; omega, fun p hp => ?_⟩
        rcases List.mem_cons.mp hp with z | z
        · subst z; have := h2 q List.mem_cons_self; simp; omega
        · have := h2 p (List.mem_cons_of_mem _ z); simp; omega
def strsD (ps : List (List Nat)) : List D := ps.map .str
theorem strsD_own : ∀ s : List (List Nat), ownL (strsD s) = false
  | [] => rfl
  | c :: s => strsD_own s
end Z

set_option Elab.async false
set_option linter.all false
set_option maxRecDepth 100000
namespace Z
def mks : List Nat := sgn ++ [42, 63]
def restB (p : List Nat) : Bool := decide (1 ≤ p.length ∧ p.length ≤ 8) && (!infixB [42, 42] p && p.all fun c => infixB [c] mks)
def partB (p : List Nat) : Bool := p == [42, 42] || restB p
def patS (s : List Nat) : Bool := decide ((parts 47 s).length ≤ 5) && (parts 47 s).all partB
def patOf : D → Bool
  | .str s => patS s
  | _ => false
def gQ (x : D) : Option D := match x with
  | .str p => some (.bl (partB p))
  | _ => none
section
variable {P : Nat → Option Fn} {k : Nat} {d : D}
theorem is_part_ok [Has P 15 f15] {p : List Nat} (hl : p.length ≤ 1000) : (run P (k + 1) 15 [.str p]).Ok fun r io => r = .bl (partB p) ∧ io = [none] := by
  refine cok_run (fn := ⟨[false], 2, b15⟩) (has P 15 f15) rfl ?_
  have hl2 : p.length ≤ 16777216 := by omega
  by_cases h0 : p = [42, 42]
  · subst h0
    simp [b15, partB]
  · have e0 : partB p = restB p := by simp [partB, h0]
    rw [e0]
    simp only [b15]
    refine w_cut (fun e => e = [some (.str p), none]) ?_ fun e he => ?_
    · simp [h0]
    subst he
    by_cases h1 : 1 ≤ p.length
    · by_cases h2 : p.length ≤ 8
      · cases h3 : infixB [42, 42] p with
        | true =>
          have i1 : (1 : Int) ≤ p.length := by omega
          have i2 : (p.length : Int) ≤ 8 := by omega
          simp [hl2, h1, h2, h3, i1, i2, restB]
        | false =>
          refine w_cut (fun e => e = [some (.str p), none]) ?_ fun e he => ?_
          · have i1 : (1 : Int) ≤ p.length := by omega
            have i2 : (p.length : Int) ≤ 8 := by omega
            simp [hl2, h1, h2, h3, i1, i2]
          subst he
          simp only [w_ret, w_un]
          refine w_compF (fun x => some (.bl (inB mks x))) (fun e => ∃ w, e = [some (.str p), w]) ?_
          simp [hl2]
          refine ⟨chrs_own p, fun c hc => ?_, ?_⟩
          · simp only [inB, mks, sgn, List.cons_append, List.nil_append]
            cases infixB [c] _ <;> simp
          · have := truths_bl (fun c => inB mks (.str [c])) p
            refine ⟨_, this, ?_⟩
            simp [restB, inB, h1, h2, h3, List.all_map]
      · have i1 : (1 : Int) ≤ p.length := by omega
        have i2 : ¬ (p.length : Int) ≤ 8 := by omega
        simp [hl2, h1, h2, i1, i2, restB]
    · have i1 : ¬ (1 : Int) ≤ p.length := by omega
      simp [hl2, h1, i1, restB]
theorem is_pattern_ok [Has P 15 f15] [Has P 16 f16] (hd : Th d) : (run P (k + 2) 16 [d]).Ok fun r io => r = .bl (patOf d) ∧ io = [none] := by
  refine cok_run (fn := ⟨[false], 3, b16⟩) (has P 16 f16) rfl ?_
  cases hs : d.isStrB with
  | false =>
    have e : patOf d = false := by cases d <;> first | rfl | cases hs
    simp [b16, hs, e]
  | true =>
    obtain ⟨s, rfl⟩ := own_i hs
    have hl := hd.2 s rfl
    have hl2 : s.length + 2 ≤ 16777216 := by omega
    obtain ⟨p1, p2⟩ := parts_bd s
    simp [b16, D.isStrB, hl2]
    by_cases h5 : (parts 47 s).length ≤ 5
    · have i5 : ((parts 47 s).length : Int) ≤ 5 := by omega
      simp [i5]
      refine ⟨?_, fun h => by omega⟩
      refine w_compF gQ (fun e => ∃ w, e = [some (.str s), some (.lst true (strsD (parts 47 s))), w]) ?_
      simp only [w_of, w_v, get_0, get_s, get_1, Option.some.injEq, exists_eq_left', it_l]
      refine ⟨strsD_own _, by rw [List.length_map]; unfold SL; omega, ⟨_, rfl⟩, fun x hx e he => ?_, fun e he => ?_⟩
      · obtain ⟨w, rfl⟩ := he
        obtain ⟨p, hp, rfl⟩ := List.mem_map.mp hx
        have hpl := p2 p hp
        refine ⟨_, rfl, ?_⟩
        simp
        refine (is_part_ok (by omega)).mono fun r io h => ?_
        obtain ⟨rfl, rfl⟩ := h
        simp [gQ]
      · obtain ⟨w, rfl⟩ := he
        have e1 : (strsD (parts 47 s)).filterMap gQ = (parts 47 s).map fun p => .bl (partB p) := by
          unfold strsD
          rw [List.filterMap_map]
          exact fm_some (fun p => D.bl (partB p)) _
        rw [show (List.map D.str (parts 47 s)).filterMap gQ = _ from e1]
        rw [u_all, truths_bl partB]
        simp [patOf, patS, List.all_map, h5]
    · have i5 : ¬ ((parts 47 s).length : Int) ≤ 5 := by omega
      simp [i5, patOf, patS, h5]
def gFl (t : List Nat) (x : D) : Option D := if inB t x = true then none else some x
theorem gFl_c (t : List Nat) (c : Nat) : gFl t (.str [c]) = if infixB [c] t = true then none else some (.str [c]) := rfl
theorem fmT (t : List Nat) : ∀ s : List Nat, ((chrs s).filterMap (gFl t)).isEmpty = (s.all fun c => infixB [c] t) ∧ depL ((chrs s).filterMap (gFl t)) = 0
  | [] => ⟨rfl, rfl⟩
  | c :: s => by
    have ih := fmT t s
    have e : (chrs (c :: s)).filterMap (gFl t) = (match gFl t (.str [c]) with | none => (chrs s).filterMap (gFl t) | some y => y :: (chrs s).filterMap (gFl t)) := by
      show List.filterMap (gFl t) (.str [c] :: chrs s) = _
      rw [List.filterMap_cons]
      cases gFl t (.str [c]) <;> rfl
    rw [e, List.all_cons]
    cases h : infixB [c] t with
    | true =>
      have g : gFl t (.str [c]) = none := by rw [gFl_c, if_pos h]
      rw [g]
      simpa using ih
    | false =>
      have g : gFl t (.str [c]) = some (.str [c]) := by rw [gFl_c, if_neg (by rw [h]; simp)]
      rw [g]
      simp [depL, D.dep, ih.2]
def I19 (s : List Nat) (xs : List D) (e : Env) : Prop := ∃ w1 w2 rest, e = [some (.str s), w1, w2] ∧ xs = strsD rest ∧ (∀ p ∈ rest, p.length ≤ 1000) ∧ patS s = rest.all partB
theorem lis_pattern_ok [Has P 5 f5] [Has P 19 f19] (hd : Th d) : (run P (k + 2) 19 [d]).Ok fun r io => r = .bl (patOf d) ∧ io = [none] := by
  refine cok_run (fn := ⟨[false], 3, b19⟩) (has P 19 f19) rfl ?_
  cases hs : d.isStrB with
  | false =>
    have e : patOf d = false := by cases d <;> first | rfl | cases hs
    simp [b19, hs, e]
  | true =>
    obtain ⟨s, rfl⟩ := own_i hs
    have hl := hd.2 s rfl
    have hl2 : s.length + 2 ≤ 16777216 := by omega
    obtain ⟨p1, p2⟩ := parts_bd s
    by_cases h5 : (parts 47 s).length ≤ 5
    · simp only [b19]
      have i5 : ¬ (5 : Int) < (parts 47 s).length := by omega
      refine w_cut (fun e => e = [some (.str s), none, none]) ?_ fun e he => ?_
      · simp [D.isStrB, hl2, i5]
      subst he
      refine w_cut (I19 s []) ?_ fun e he => ?_
      · refine w_for (I19 s) ?_ (fun x r e he => ?_) fun e he => he
        · simp [hl2]
          exact ⟨strsD_own _, none, none, _, rfl, rfl, fun p hp => Nat.le_trans (p2 p hp) hl, by simp [patS, h5]⟩
        · obtain ⟨w1, w2, rest, rfl, e1, e2, e3⟩ := he
          cases rest with
          | nil => cases e1
          | cons p ps =>
            simp only [strsD, List.map_cons, List.cons.injEq] at e1
            obtain ⟨rfl, rfl⟩ := e1
            have pl := e2 p List.mem_cons_self
            have pl2 : p.length ≤ 16777216 := by omega
            have e4 : ∀ q ∈ ps, q.length ≤ 1000 := fun q hq => e2 q (List.mem_cons_of_mem _ hq)
            rw [List.all_cons] at e3
            refine ⟨_, rfl, ?_⟩
            by_cases h0 : p = [42, 42]
            · subst h0
              simp
              exact ⟨_, _, _, rfl, rfl, e4, by simpa [partB] using e3⟩
            · have e0 : partB p = restB p := by simp [partB, h0]
              rw [e0] at e3
              simp only [w_if]
              have fal : restB p = false → patOf (.str s) = false := fun h => by
                show patS s = false
                rw [e3, h]
                rfl
              by_cases q0 : p = []
              · have f := fal (by subst q0; rfl)
                simp [h0, q0, f]
              · have q1 : 1 ≤ p.length := List.length_pos_iff.mpr q0
                by_cases q8 : p.length ≤ 8
                · have i8 : ¬ (8 : Int) < p.length := by omega
                  cases q2 : infixB [42, 42] p with
                  | true =>
                    have f := fal (by simp [restB, q2])
                    simp [h0, q0, pl2, i8, q2, f]
                  | false =>
                    simp [h0, q0, pl2, i8, q2]
                    refine w_compF (gFl mks) (fun e => ∃ w, e = [some (.str s), some (.str p), w]) ?_
                    have hs : sgn.length ≤ 16777214 := by decide
                    simp [pl2]
                    refine ⟨chrs_own p, fun c hc => ?_, ?_⟩
                    · refine signs_ok.mono fun r io h => ?_
                      obtain ⟨rfl, rfl⟩ := h
                      simp [hs]
                      rw [gFl_c]
                      show _
                      have em : sgn ++ [42, 63] = mks := rfl
                      simp only [em]
                      cases infixB [c] mks <;> simp
                    · obtain ⟨e5, e6⟩ := fmT mks p
                      have e7 : List.filterMap (gFl mks ∘ fun c => D.str [c]) p = (chrs p).filterMap (gFl mks) := by
                        unfold chrs
                        rw [List.filterMap_map]
                      rw [e7, eqOf_nil (by omega), e5]
                      have er : restB p = p.all fun c => infixB [c] mks := by
                        unfold restB
                        rw [decide_eq_true ⟨q1, q8⟩, q2]
                        rfl
                      rw [er] at e3 fal
                      generalize (p.all fun c => infixB [c] mks) = b at e3 fal ⊢
                      cases b with
                      | false =>
                        have f := fal rfl
                        simp [f]
                      | true =>
                        simp
                        exact ⟨_, _, _, rfl, rfl, e4, by simpa using e3⟩
                · have i8 : (8 : Int) < p.length := by omega
                  have f := fal (by simp [restB, q8])
                  simp [h0, q0, pl2, i8, f]
      · obtain ⟨w1, w2, rest, rfl, e1, e2, e3⟩ := he
        cases rest with
        | nil => simp [patOf, e3]
        | cons p ps => cases e1
    · have i5 : (5 : Int) < (parts 47 s).length := by omega
      simp [b19, D.isStrB, hl2, i5, patOf, patS, h5]
end
end Z

set_option Elab.async false
set_option linter.all false
set_option maxRecDepth 100000
namespace Z
section
variable {P : Nat → Option Fn} {k : Nat} {d : D}
def I17 (g : List Nat) (m : Int) (n : Nat) (xs : List D) (e : Env) : Prop := ∃ d t w4 w5, e = [some d, some (.str g), some (.int m), some (.str t), w4, w5] ∧ Dr d ∧ t.length + xs.length ≤ n
theorem marks_ok [Has P 2 f2] [Has P 3 f3] [Has P 17 f17] {g : List Nat} {n : Nat} (hd : Dr d) (h1 : g ≠ []) (hl : g.length ≤ 1000) (n1 : 1 ≤ n) (n2 : n ≤ 1000) :
    (run P (k + 3) 17 [d, .str g, .int n]).Ok fun r io => ∃ d', Tx n r ∧ Dr d' ∧ io = [some d', none, none] := by
  refine cok_run (fn := ⟨[true, false, false], 6, b17⟩) (has P 17 f17) rfl ?_
  have gl : g.length ≤ 16777216 := by omega
  have gp : 0 < g.length := List.length_pos_iff.mpr h1
  simp [b17]
  refine w_for (I17 g n n) ?_ (fun x r e he => ?_) fun e he => ?_
  · simp
    refine (draw_ok h2 hd (by omega) (by omega)).mono fun r io h => ?_
    obtain ⟨r', d', rfl, q1, q2, hd', rfl⟩ := h
    simp
    exact ⟨_, rng1_ok (by omega) (by omega), _, _, _, _, rfl, hd', by rw [rangeUp_len]; simp; omega⟩
  · obtain ⟨d1, t, w4, w5, rfl, hd1, ht⟩ := he
    refine ⟨_, rfl, ?_⟩
    simp at ht
    simp [gl]
    refine (draw_ok h2 hd1 (by omega) (by omega)).mono fun r io h => ?_
    obtain ⟨r', d2, rfl, q1, q2, hd2, rfl⟩ := h
    obtain ⟨c, e1, _⟩ := ats_in q1 q2
    obtain ⟨c0, e0, _⟩ := ats_in (xs := g) (i := 0) (by omega) (by omega)
    simp [gl, e1, e0]
    refine (of_list (xs := [.str [c], .str [c0], .str [42], .str [63]]) h2 h3 hd2 (by simp) (by simp) (by simp)).mono fun r2 io h => ?_
    obtain ⟨d3, m, hd3, rfl⟩ := h
    have tl : t.length ≤ 16777215 := by omega
    have tl2 : t.length ≤ 16777216 := by omega
    have hr : ∃ c, r2 = .str [c] := by
      simp only [List.mem_cons, List.not_mem_nil, or_false] at m
      rcases m with rfl | rfl | rfl | rfl <;> exact ⟨_, rfl⟩
    obtain ⟨c, rfl⟩ := hr
    have done : ∀ u, u.length ≤ t.length + 1 → I17 g n n r [some d3, some (.str g), some (.int n), some (.str u), some x, some (.str [c])] := fun u hu => ⟨_, _, _, _, rfl, hd3, by omega⟩
    have y1 := done (t ++ [c]) (by simp)
    have y0 := done t (by omega)
    simp [tl, tl2]
    by_cases hc : c = 42
    · simp [hc] at y1 y0 ⊢
      by_cases ht : cut t (some (-1)) none = [42]
      · simp [ht]
        exact y0
      · simp [ht]
        exact y1
    · simp [hc]
      exact y1
  · obtain ⟨d1, t, w4, w5, rfl, hd1, ht⟩ := he
    simp
    exact ⟨⟨_, rfl, by simpa using ht⟩, hd1⟩
def I18 (g : List Nat) (a m : Int) (n : Nat) (xs : List D) (e : Env) : Prop := ∃ d acc w5, e = [some d, some (.str g), some (.int a), some (.int m), some (.lst true acc), w5] ∧ Dr d ∧ All (Tx (n + 1)) acc ∧ acc.length + xs.length ≤ a
theorem pattern_ok [Has P 2 f2] [Has P 3 f3] [Has P 17 f17] [Has P 18 f18] {g : List Nat} {n a : Nat} (hd : Dr d) (h1 : g ≠ []) (hl : g.length ≤ 1000) (n1 : 1 ≤ n) (n2 : n ≤ 100) (a1 : 1 ≤ a) (a2 : a ≤ 100) :
    (run P (k + 4) 18 [d, .str g, .int a, .int n]).Ok fun r io => ∃ d', Tx (a * (n + 1) + a) r ∧ Dr d' ∧ io = [some d', none, none, none] := by
  refine cok_run (fn := ⟨[true, false, false, false], 6, b18⟩) (has P 18 f18) rfl ?_
  simp [b18]
  refine w_for (I18 g a n n) ?_ (fun x r e he => ?_) fun e he => ?_
  · simp
    refine (draw_ok h2 hd (by omega) (by omega)).mono fun r io h => ?_
    obtain ⟨r', d', rfl, q1, q2, hd', rfl⟩ := h
    simp
    exact ⟨_, rng1_ok (by omega) (by omega), _, _, _, rfl, hd', All.nil, by rw [rangeUp_len]; simp; omega⟩
  · obtain ⟨d1, acc, w5, rfl, hd1, ha, hc⟩ := he
    refine ⟨_, rfl, ?_⟩
    simp at hc
    have al : acc.length < 16777216 := by omega
    simp [al]
    refine (draw_ok h2 hd1 (by omega) (by omega)).mono fun r2 io h => ?_
    obtain ⟨r', d2, rfl, q1, q2, hd2, rfl⟩ := h
    by_cases hr : r' = 0
    · simp [hr, al]
      exact ⟨_, _, _, rfl, hd2, ha.snoc ⟨_, rfl, by simp; omega⟩, by simp; omega⟩
    · simp [hr]
      refine (marks_ok hd2 h1 hl n1 (by omega)).mono fun r2 io h => ?_
      obtain ⟨d3, ⟨t, rfl, ht⟩, hd3, rfl⟩ := h
      simp [al]
      exact ⟨_, _, _, rfl, hd3, ha.snoc ⟨_, rfl, by omega⟩, by simp; omega⟩
  · obtain ⟨d1, acc, w5, rfl, hd1, ha, hc⟩ := he
    simp
    have hc : acc.length ≤ a := by simpa using hc
    have hb : a * (n + 1) + a * 1 ≤ 16777216 := by
      have : a * (n + 1) ≤ 100 * 101 := Nat.mul_le_mul a2 (by omega)
      omega
    obtain ⟨t, e, ht⟩ := join_ok (sep := [47]) (o := true) ha hc hb
    exact ⟨_, e, ⟨t, rfl, by simpa using ht⟩, hd1⟩
end
end Z

set_option Elab.async false
set_option linter.all false
set_option maxRecDepth 100000
namespace Z
section
variable {P : Nat → Option Fn} {k : Nat} {d : D}
def lsome : List D := [D.int 0, D.int 1, D.int (-1), D.bl true, D.bl false, D.non, D.str [], D.str [97], D.str [97, 98], D.str [65], D.str [97, 47, 98], D.str [42, 42], D.str [97, 98, 99, 100, 101, 102, 103, 104, 105], D.int 1000000000000000000000000000000000000000, D.str [110, 111, 110, 101], D.str [111, 102], D.str [112, 117, 115, 104], D.tup [], D.lst false [], D.tup [D.str [110, 111, 110, 101]]]
theorem lsome_th : All Th lsome := by
  have i : ∀ j : Int, Th (.int j) := fun _ => th_no rfl rfl
  unfold lsome
  exact all_cons (i _) (all_cons (i _) (all_cons (i _) (all_cons (th_no rfl rfl) (all_cons (th_no rfl rfl) (all_cons (th_no rfl rfl) (all_cons (th_str (by decide)) (all_cons (th_str (by decide)) (all_cons (th_str (by decide)) (all_cons (th_str (by decide)) (all_cons (th_str (by decide)) (all_cons (th_str (by decide)) (all_cons (th_str (by decide)) (all_cons (i _)
    (all_cons (th_str (by decide)) (all_cons (th_str (by decide)) (all_cons (th_str (by decide)) (all_cons (th_no rfl rfl) (all_cons (th_no rfl rfl) (all_cons (th_no rfl rfl) All.nil)))))))))))))))))))
theorem some_ok [Has P 2 f2] [Has P 3 f3] (hd : Dr d) : (run P (k + 2) 3 [d, .lst true lsome]).Ok fun r io => ∃ d', Th r ∧ Dr d' ∧ io = [some d', none] :=
  (of_list h2 h3 hd (by simp [lsome]) (by simp [lsome]) (by simp [lsome])).mono fun r io h => by
    obtain ⟨d', m, hd', e⟩ := h
    exact ⟨d', lsome_th r m, hd', e⟩
def I9 (n : Nat) (r' : Int) (acc xs : List D) (s : Env) : Prop := ∃ d v4 v5, s = [some d, some (.int (n + 1)), some (.int r'), none, v4, v5] ∧ Dr d ∧ All Th acc
theorem thing_ok [Has P 2 f2] [Has P 3 f3] [Has P 9 f9] : ∀ (n k : Nat) (d : D), Dr d → (run P (k + n + 3) 9 [d, .int n]).Ok fun r io => ∃ d', Th r ∧ Dr d' ∧ io = [some d', none] := by
  intro n
  induction n with
  | zero =>
    intro k d hd
    refine cok_run (fn := ⟨[true, false], 6, b9⟩) (has P 9 f9) rfl ?_
    simp [b9]
    refine (draw_ok h2 hd (by omega) (by omega)).mono fun r io h => ?_
    obtain ⟨r', d', rfl, q1, q2, hd', rfl⟩ := h
    simp
    constructor
    all_goals
      intro _
      refine (some_ok hd').mono fun r io h => ?_
      obtain ⟨d2, ht, hd2, rfl⟩ := h
      simp
      exact ⟨ht, hd2⟩
  | succ n ih =>
    intro k d hd
    refine cok_run (fn := ⟨[true, false], 6, b9⟩) (has P 9 f9) rfl ?_
    have hz : ¬ ((n : Int) + 1 = 0) := by omega
    simp [b9, hz]
    refine (draw_ok h2 hd (by omega) (by omega)).mono fun r io h => ?_
    obtain ⟨r', d', rfl, q1, q2, hd', rfl⟩ := h
    simp [hz]
    constructor
    · intro _
      refine (some_ok hd').mono fun r io h => ?_
      obtain ⟨d2, ht, hd2, rfl⟩ := h
      simp
      exact ⟨ht, hd2⟩
    · intro h6
      refine w_comp (I9 n r') ?_
      simp
      refine (draw_ok h2 hd' (by omega) (by omega)).mono fun r io h => ?_
      obtain ⟨r2, d2, rfl, p1, p2, hd2, rfl⟩ := h
      simp
      refine ⟨_, rng1_ok (by omega) (by omega), ?_, ⟨_, _, _, rfl, hd2, All.nil⟩, ?_, ?_⟩
      · rw [rangeUp_len]; omega
      · intro acc x r s hs
        obtain ⟨d1, v4, v5, rfl, hd1, ha⟩ := hs
        simp [wipe]
        refine (ih k d1 hd1).mono fun r io h => ?_
        obtain ⟨d2, m, hd2, rfl⟩ := h
        simp
        exact ⟨_, _, _, rfl, hd2, ha.snoc m⟩
      · intro ys s2 hs
        obtain ⟨d1, v4, v5, rfl, hd1, ha⟩ := hs
        simp [restore]
        obtain ⟨x, e, m⟩ := at_in (xs := [D.lst false (frzL ys), .tup (frzL ys), .tup (frzL ys)]) (i := r' - 6) (by omega) (by simp; omega)
        refine ⟨x, e, ?_, hd1⟩
        simp only [List.mem_cons, List.not_mem_nil, or_false] at m
        rcases m with rfl | rfl | rfl
        · exact th_no (by simp) rfl
        · exact th_no (by simp) rfl
        · exact th_no (by simp) rfl
theorem truly_ok [Has P 10 f10] {a b : Bool} : (run P (k + 1) 10 [.bl a, .bl b]).Ok fun r io => r = .bl (a == b) ∧ io = [none, none] := by
  refine cok_run (fn := ⟨[false, false], 2, b10⟩) (has P 10 f10) rfl ?_
  simp [b10, D.isBoolB]
  cases a <;> cases b <;> simp
end
end Z

set_option Elab.async false
set_option linter.all false
set_option maxRecDepth 100000
namespace Z
def I20 (ns : List Int) (xs : List D) (s : Env) : Prop := ∃ w1 w2 w3 w4 w5 w6 w7 w8, s = [some (.lst false (ns.map .int)), w1, w2, w3, w4, w5, w6, w7, w8] ∧ ∀ x ∈ xs, ∃ j, x = .int j ∧ 0 ≤ j
def J20 (ns : List Int) (xs : List D) (s : Env) : Prop := ∃ w1 w2 w3 w4 w5 w6 w7 w8, s = [some (.lst false (ns.map .int)), w1, w2, w3, w4, w5, w6, w7, w8] ∧ All Th xs
def lput : List D := [.str [42], .str [42, 42], .str [47], .str [63], .str [46], .str [65], .str [32], .str [47, 47], .str [97], .str [42, 42, 42]]
theorem lput_tx : All (Tx 3) lput := by
  have i : ∀ s : List Nat, s.length ≤ 3 → Tx 3 (.str s) := fun s h => ⟨s, rfl, h⟩
  unfold lput
  exact all_cons (i _ (by decide)) (all_cons (i _ (by decide)) (all_cons (i _ (by decide)) (all_cons (i _ (by decide)) (all_cons (i _ (by decide)) (all_cons (i _ (by decide)) (all_cons (i _ (by decide)) (all_cons (i _ (by decide)) (all_cons (i _ (by decide)) (all_cons (i _ (by decide)) All.nil)))))))))
set_option maxHeartbeats 4000000 in
theorem law_ok {ns : List Int} (hn : ns.length ≤ 63) : (run prg 8 20 [.lst false (ns.map .int)]).Ok fun r io => r = .bl true := by
  refine cok_run (fn := ⟨[false], 9, b20⟩) (has prg 20 f20) rfl ?_
  simp only [b20]
  refine w_cut (I20 ns []) ?_ fun s h => by
    obtain ⟨w1, w2, w3, w4, w5, w6, w7, w8, rfl, _⟩ := h
    simp
  refine w_for (I20 ns) ?_ (fun x r s h => ?_) fun s h => h
  · simp
    refine ⟨_, rng1_ok ?_ ?_, _, _, _, _, _, _, _, _, rfl, fun x hx => ?_⟩
    · split <;> omega
    · split <;> (try split) <;> omega
    · obtain ⟨j, e, h1, h2⟩ := rangeUp_mem _ _ x hx
      exact ⟨j, e, h1⟩
  · obtain ⟨w1, w2, w3, w4, w5, w6, w7, w8, rfl, hx⟩ := h
    obtain ⟨j, rfl, hj⟩ := hx _ List.mem_cons_self
    have hr : ∀ x ∈ r, ∃ j, x = D.int j ∧ 0 ≤ j := fun x h => hx x (List.mem_cons_of_mem _ h)
    refine ⟨_, rfl, ?_⟩
    simp only [w_seq, w_asg]
    simp [frz_ints, -w_opf, -w_opt]
    refine (draws_ok (k := 6) hj hn).mono fun r io h => ?_
    obtain ⟨hd, rfl⟩ := h
    simp [-w_opf, -w_opt]
    refine (few_ok (k := 5) hd).mono fun r io h => ?_
    obtain ⟨g, d1, rfl, g1, g2, hd1, rfl⟩ := h
    simp [-w_opf, -w_opt]
    refine (pattern_ok (k := 3) (a := 6) (n := 9) hd1 g1 (by omega) (by omega) (by omega) (by omega) (by omega)).mono fun r io h => ?_
    obtain ⟨d2, ⟨t, rfl, ht⟩, hd2, rfl⟩ := h
    have tl : t.length ≤ 16777216 := by omega
    simp [tl]
    refine (draw_ok h2 hd2 (by omega) (by omega)).mono fun r io h => ?_
    obtain ⟨i, d3, rfl, q1, q2, hd3, rfl⟩ := h
    simp
    refine (of_list (xs := lput) h2 h3 hd3 (by simp [lput]) (by simp [lput]) (by simp [lput])).mono fun r1 io h => ?_
    obtain ⟨d4, m, hd4, rfl⟩ := h
    obtain ⟨u, rfl, hu⟩ := lput_tx r1 m
    have c1 := fun l h => Nat.le_trans (cut_len (xs := t) (l := l) (h := h)) ht
    have c2 := c1 none (some i)
    have c3 := c1 (some i) none
    have c4 := c1 (some (i + 1)) none
    have x1 : (cut t none (some i)).length + u.length ≤ 16777216 := by omega
    have x2 : (cut t none (some i)).length + u.length + (cut t (some i) none).length ≤ 16777216 := by omega
    have x3 : (cut t none (some i)).length + (cut t (some (i + 1)) none).length ≤ 16777216 := by omega
    have x4 : t.length ≤ 16777213 := by omega
    have x5 : 3 + t.length ≤ 16777216 := by omega
    simp [tl, x1, x2, x3, x4, x5]
    refine (thing_ok 2 2 d4 hd4).mono fun r1 io h => ?_
    obtain ⟨d5, th, hd5, rfl⟩ := h
    have gl : g.length ≤ 16777216 := by omega
    have gp : 0 < g.length := List.length_pos_iff.mpr g1
    obtain ⟨c0, e0, _⟩ := ats_in (xs := g) (i := 0) (by omega) (by omega)
    simp [tl, gl, e0]
    refine ⟨⟨by omega, by omega, by omega⟩, by omega, ?_⟩
    have hT : All Th [D.str t, D.str (cut t none (some i) ++ (u ++ cut t (some i) none)), D.str (cut t none (some i) ++ cut t (some (i + 1)) none), D.str (t ++ [47, 42, 42]), D.str (42 :: 42 :: 47 :: t), r1.frz, D.lst false [D.str t], D.tup [D.str t],
        D.str (t ++ List.replicate (8 - (t.length : Int) % 8).toNat c0), D.str []] :=
      all_cons (th_str (by omega)) (all_cons (th_str (by simp; omega)) (all_cons (th_str (by simp; omega)) (all_cons (th_str (by simp; omega)) (all_cons (th_str (by simp; omega)) (all_cons (th_frz th) (all_cons (th_no rfl rfl) (all_cons (th_no rfl rfl) (all_cons (th_str (by simp; omega)) (all_cons (th_str (by simp)) All.nil)))))))))
    refine w_for (J20 ns) ?_ (fun x r' s h => ?_) fun s h => ?_
    · simp
      exact ⟨_, _, _, _, _, _, _, _, rfl, hT⟩
    · obtain ⟨w1, w2, w3, w4, w5, w6, w7, w8, rfl, hx⟩ := h
      have tx := th_frz (hx _ List.mem_cons_self)
      have fx : x.frz.frz = x.frz := frz_frz x
      refine ⟨_, rfl, ?_⟩
      simp
      refine (is_pattern_ok (k := 5) tx).mono fun r io h => ?_
      obtain ⟨rfl, rfl⟩ := h
      simp [fx]
      refine (lis_pattern_ok (k := 5) tx).mono fun r io h => ?_
      obtain ⟨rfl, rfl⟩ := h
      simp
      refine (truly_ok (k := 6)).mono fun r io h => ?_
      obtain ⟨rfl, rfl⟩ := h
      simp
      exact ⟨_, _, _, _, _, _, _, _, rfl, fun y hy => hx y (List.mem_cons_of_mem _ hy)⟩
    · obtain ⟨w1, w2, w3, w4, w5, w6, w7, w8, rfl, _⟩ := h
      exact ⟨_, _, _, _, _, _, _, _, rfl, hr⟩
theorem law_runs : ∀ ns : List Int, ns.length ≤ 63 → ∃ io, run (tabP tab) 8 20 [.lst false (ns.map .int)] = .ok (.bl true) io := fun ns hn => by
  have q := law_ok hn
  unfold prg at q
  cases e : run (tabP tab) 8 20 [.lst false (ns.map .int)] with
  | ok d io =>
    rw [e] at q
    cases q
    exact ⟨io, rfl⟩
  | exc x io => rw [e] at q; exact q.elim
  | bad => rw [e] at q; exact q.elim
end Z

set_option Elab.async false
set_option linter.all false
set_option maxRecDepth 100000
namespace Z
open PySem PySem.Spec PyProof.Rows L2
theorem all_mk {l : PySem.W.OpenLaw} {w : World} {K : PySem.W.Frag} {h : Heap} {mg : Str → Option Value} {fa f0 f1 f2 f3 f4 f5 f6 f7 f8 f9 f10 f11 f12 : Addr} (X : K.In h) (G : h.Ns mainGlobals mg) (hfa : mg "law" = some (.ref fa))
    {oc0 kV0 dc0 pm0 cd0 ct0 : Value} {od0 an0 : Option Addr} {sl0 : Array (Option Value)}
    (a0 : PySem.W.nsIn K mainGlobals "is_part" = some (some (.ref f0))) (l0 : K.lookup f0 = some ⟨oc0, od0, .func (PySem.W.fnOf "is_part" "is_part" (defArgs (topS 9)) (defBody (topS 9)) (defScope (topS 9)) .none kV0 dc0 pm0 an0 cd0 ct0), sl0⟩)
    (c0 : PySem.W.codeIn K cd0 "is_part" = true) (k0 : PySem.W.keepIn K (.ref f0) = true)
    {oc1 kV1 dc1 pm1 cd1 ct1 : Value} {od1 an1 : Option Addr} {sl1 : Array (Option Value)}
    (a1 : PySem.W.nsIn K mainGlobals "is_pattern" = some (some (.ref f1))) (l1 : K.lookup f1 = some ⟨oc1, od1, .func (PySem.W.fnOf "is_pattern" "is_pattern" (defArgs (topS 10)) (defBody (topS 10)) (defScope (topS 10)) .none kV1 dc1 pm1 an1 cd1 ct1), sl1⟩)
    (c1 : PySem.W.codeIn K cd1 "is_pattern" = true) (k1 : PySem.W.keepIn K (.ref f1) = true)
    {oc2 kV2 dc2 pm2 cd2 ct2 : Value} {od2 an2 : Option Addr} {sl2 : Array (Option Value)}
    (a2 : PySem.W.nsIn K mainGlobals "_law_draws" = some (some (.ref f2))) (l2 : K.lookup f2 = some ⟨oc2, od2, .func (PySem.W.fnOf "_law_draws" "_law_draws" (defArgs (topS 12)) (defBody (topS 12)) (defScope (topS 12)) .none kV2 dc2 pm2 an2 cd2 ct2), sl2⟩)
    (c2 : PySem.W.codeIn K cd2 "_law_draws" = true) (k2 : PySem.W.keepIn K (.ref f2) = true)
    {oc3 kV3 dc3 pm3 cd3 ct3 : Value} {od3 an3 : Option Addr} {sl3 : Array (Option Value)}
    (a3 : PySem.W.nsIn K mainGlobals "_law_draw" = some (some (.ref f3))) (l3 : K.lookup f3 = some ⟨oc3, od3, .func (PySem.W.fnOf "_law_draw" "_law_draw" (defArgs (topS 13)) (defBody (topS 13)) (defScope (topS 13)) .none kV3 dc3 pm3 an3 cd3 ct3), sl3⟩)
    (c3 : PySem.W.codeIn K cd3 "_law_draw" = true) (k3 : PySem.W.keepIn K (.ref f3) = true)
    {oc4 kV4 dc4 pm4 cd4 ct4 : Value} {od4 an4 : Option Addr} {sl4 : Array (Option Value)}
    (a4 : PySem.W.nsIn K mainGlobals "_law_signs" = some (some (.ref f4))) (l4 : K.lookup f4 = some ⟨oc4, od4, .func (PySem.W.fnOf "_law_signs" "_law_signs" (defArgs (topS 14)) (defBody (topS 14)) (defScope (topS 14)) .none kV4 dc4 pm4 an4 cd4 ct4), sl4⟩)
    (c4 : PySem.W.codeIn K cd4 "_law_signs" = true) (k4 : PySem.W.keepIn K (.ref f4) = true)
    {oc5 kV5 dc5 pm5 cd5 ct5 : Value} {od5 an5 : Option Addr} {sl5 : Array (Option Value)}
    (a5 : PySem.W.nsIn K mainGlobals "_law_few_signs" = some (some (.ref f5))) (l5 : K.lookup f5 = some ⟨oc5, od5, .func (PySem.W.fnOf "_law_few_signs" "_law_few_signs" (defArgs (topS 15)) (defBody (topS 15)) (defScope (topS 15)) .none kV5 dc5 pm5 an5 cd5 ct5), sl5⟩)
    (c5 : PySem.W.codeIn K cd5 "_law_few_signs" = true) (k5 : PySem.W.keepIn K (.ref f5) = true)
    {oc6 kV6 dc6 pm6 cd6 ct6 : Value} {od6 an6 : Option Addr} {sl6 : Array (Option Value)}
    (a6 : PySem.W.nsIn K mainGlobals "_law_of" = some (some (.ref f6))) (l6 : K.lookup f6 = some ⟨oc6, od6, .func (PySem.W.fnOf "_law_of" "_law_of" (defArgs (topS 16)) (defBody (topS 16)) (defScope (topS 16)) .none kV6 dc6 pm6 an6 cd6 ct6), sl6⟩)
    (c6 : PySem.W.codeIn K cd6 "_law_of" = true) (k6 : PySem.W.keepIn K (.ref f6) = true)
    {oc7 kV7 dc7 pm7 cd7 ct7 : Value} {od7 an7 : Option Addr} {sl7 : Array (Option Value)}
    (a7 : PySem.W.nsIn K mainGlobals "_law_marks" = some (some (.ref f7))) (l7 : K.lookup f7 = some ⟨oc7, od7, .func (PySem.W.fnOf "_law_marks" "_law_marks" (defArgs (topS 17)) (defBody (topS 17)) (defScope (topS 17)) .none kV7 dc7 pm7 an7 cd7 ct7), sl7⟩)
    (c7 : PySem.W.codeIn K cd7 "_law_marks" = true) (k7 : PySem.W.keepIn K (.ref f7) = true)
    {oc8 kV8 dc8 pm8 cd8 ct8 : Value} {od8 an8 : Option Addr} {sl8 : Array (Option Value)}
    (a8 : PySem.W.nsIn K mainGlobals "_law_pattern" = some (some (.ref f8))) (l8 : K.lookup f8 = some ⟨oc8, od8, .func (PySem.W.fnOf "_law_pattern" "_law_pattern" (defArgs (topS 18)) (defBody (topS 18)) (defScope (topS 18)) .none kV8 dc8 pm8 an8 cd8 ct8), sl8⟩)
    (c8 : PySem.W.codeIn K cd8 "_law_pattern" = true) (k8 : PySem.W.keepIn K (.ref f8) = true)
    {oc9 kV9 dc9 pm9 cd9 ct9 : Value} {od9 an9 : Option Addr} {sl9 : Array (Option Value)}
    (a9 : PySem.W.nsIn K mainGlobals "_law_thing" = some (some (.ref f9))) (l9 : K.lookup f9 = some ⟨oc9, od9, .func (PySem.W.fnOf "_law_thing" "_law_thing" (defArgs (topS 19)) (defBody (topS 19)) (defScope (topS 19)) .none kV9 dc9 pm9 an9 cd9 ct9), sl9⟩)
    (c9 : PySem.W.codeIn K cd9 "_law_thing" = true) (k9 : PySem.W.keepIn K (.ref f9) = true)
    {oc10 kV10 dc10 pm10 cd10 ct10 : Value} {od10 an10 : Option Addr} {sl10 : Array (Option Value)}
    (a10 : PySem.W.nsIn K mainGlobals "_law_truly" = some (some (.ref f10))) (l10 : K.lookup f10 = some ⟨oc10, od10, .func (PySem.W.fnOf "_law_truly" "_law_truly" (defArgs (topS 20)) (defBody (topS 20)) (defScope (topS 20)) .none kV10 dc10 pm10 an10 cd10 ct10), sl10⟩)
    (c10 : PySem.W.codeIn K cd10 "_law_truly" = true) (k10 : PySem.W.keepIn K (.ref f10) = true)
    {oc11 kV11 dc11 pm11 cd11 ct11 : Value} {od11 an11 : Option Addr} {sl11 : Array (Option Value)}
    (a11 : PySem.W.nsIn K mainGlobals "_law_is_pattern" = some (some (.ref f11))) (l11 : K.lookup f11 = some ⟨oc11, od11, .func (PySem.W.fnOf "_law_is_pattern" "_law_is_pattern" (defArgs (topS 21)) (defBody (topS 21)) (defScope (topS 21)) .none kV11 dc11 pm11 an11 cd11 ct11), sl11⟩)
    (c11 : PySem.W.codeIn K cd11 "_law_is_pattern" = true) (k11 : PySem.W.keepIn K (.ref f11) = true)
    {oc12 kV12 dc12 pm12 cd12 ct12 : Value} {od12 an12 : Option Addr} {sl12 : Array (Option Value)}
    (a12 : PySem.W.nsIn K mainGlobals "law" = some (some (.ref f12))) (l12 : K.lookup f12 = some ⟨oc12, od12, .func (PySem.W.fnOf "law" "law" (defArgs (topS 22)) (defBody (topS 22)) (defScope (topS 22)) .none kV12 dc12 pm12 an12 cd12 ct12), sl12⟩)
    (c12 : PySem.W.codeIn K cd12 "law" = true) (k12 : PySem.W.keepIn K (.ref f12) = true)
    {s0 : Str} {t0 : _} (m0 : PySem.W.nsIn K mainGlobals "SIGNS" = some (some (.str s0 t0))) (y0 : s0 = ⟨List.toArray [46, 97, 98, 99, 100, 101, 102, 103, 104, 105, 106, 107, 108, 109, 110, 111, 112, 113, 114, 115, 116, 117, 118, 119, 120, 121, 122]⟩)
    {s1 : Str} {t1 : _} (m1 : PySem.W.nsIn K mainGlobals "STROKE" = some (some (.str s1 t1))) (y1 : s1 = ⟨List.toArray [47]⟩)
    {s2 : Str} {t2 : _} (m2 : PySem.W.nsIn K mainGlobals "ANY_PARTS" = some (some (.str s2 t2))) (y2 : s2 = ⟨List.toArray [42, 42]⟩)
    {s3 : Str} {t3 : _} (m3 : PySem.W.nsIn K mainGlobals "ANY_SIGNS" = some (some (.str s3 t3))) (y3 : s3 = ⟨List.toArray [42]⟩)
    {s4 : Str} {t4 : _} (m4 : PySem.W.nsIn K mainGlobals "ONE_SIGN" = some (some (.str s4 t4))) (y4 : s4 = ⟨List.toArray [63]⟩)
    {s5 : Int} {t5 : _} (m5 : PySem.W.nsIn K mainGlobals "MOST_PARTS" = some (some (.int s5 t5))) (y5 : s5 = 5)
    {s6 : Int} {t6 : _} (m6 : PySem.W.nsIn K mainGlobals "MOST_MARKS" = some (some (.int s6 t6))) (y6 : s6 = 8)
    (z0 : PySem.W.nsIn K mainGlobals "len" = some none)
    (z1 : PySem.W.nsIn K mainGlobals "all" = some none)
    (z2 : PySem.W.nsIn K mainGlobals "any" = some none)
    (z3 : PySem.W.nsIn K mainGlobals "list" = some none)
    (z4 : PySem.W.nsIn K mainGlobals "tuple" = some none)
    (z5 : PySem.W.nsIn K mainGlobals "int" = some none)
    (z6 : PySem.W.nsIn K mainGlobals "min" = some none)
    (z7 : PySem.W.nsIn K mainGlobals "max" = some none)
    (z8 : PySem.W.nsIn K mainGlobals "isinstance" = some none)
    (z9 : PySem.W.nsIn K mainGlobals "range" = some none)
    (z10 : PySem.W.nsIn K mainGlobals "str" = some none)
    (z11 : PySem.W.nsIn K mainGlobals "bool" = some none)
    : ∃ fd : FuncData, (∀ (s : Shared) (v : Value), BindsTo s fd ⟨[v], []⟩ [("_law_script", v)]) ∧ ∀ base : Heap, K.In base → base.Ns mainGlobals mg → FnOk l.prog w K mg base CX0 8 fa fd ["_law_script"] (spLaw K 63) := by
  have e := hfa.symm.trans (PySem.W.mg_of X G a12)
  cases e
  have F0 := fun_mk (st := topS 9) l0 c0 k0
  have B0 := F0.binds (ps := ["part"]) fun _ _ _ _ _ _ us hl => match us, hl with | [_], _ => rfl
  have F1 := fun_mk (st := topS 10) l1 c1 k1
  have B1 := F1.binds (ps := ["thing"]) fun _ _ _ _ _ _ us hl => match us, hl with | [_], _ => rfl
  have F2 := fun_mk (st := topS 12) l2 c2 k2
  have B2 := F2.binds (ps := ["_law_script", "_law_k"]) fun _ _ _ _ _ _ us hl => match us, hl with | [_, _], _ => rfl
  have F3 := fun_mk (st := topS 13) l3 c3 k3
  have B3 := F3.binds (ps := ["_law_draws_here", "_law_many"]) fun _ _ _ _ _ _ us hl => match us, hl with | [_, _], _ => rfl
  have F4 := fun_mk (st := topS 14) l4 c4 k4
  have B4 := F4.binds (ps := []) fun _ _ _ _ _ _ us hl => match us, hl with | [], _ => rfl
  have F5 := fun_mk (st := topS 15) l5 c5 k5
  have B5 := F5.binds (ps := ["_law_draws_here"]) fun _ _ _ _ _ _ us hl => match us, hl with | [_], _ => rfl
  have F6 := fun_mk (st := topS 16) l6 c6 k6
  have B6 := F6.binds (ps := ["_law_draws_here", "_law_some"]) fun _ _ _ _ _ _ us hl => match us, hl with | [_, _], _ => rfl
  have F7 := fun_mk (st := topS 17) l7 c7 k7
  have B7 := F7.binds (ps := ["_law_draws_here", "_law_signs_here", "_law_most"]) fun _ _ _ _ _ _ us hl => match us, hl with | [_, _, _], _ => rfl
  have F8 := fun_mk (st := topS 18) l8 c8 k8
  have B8 := F8.binds (ps := ["_law_draws_here", "_law_signs_here", "_law_parts", "_law_most"]) fun _ _ _ _ _ _ us hl => match us, hl with | [_, _, _, _], _ => rfl
  have F9 := fun_mk (st := topS 19) l9 c9 k9
  have B9 := F9.binds (ps := ["_law_draws_here", "_law_deep"]) fun _ _ _ _ _ _ us hl => match us, hl with | [_, _], _ => rfl
  have F10 := fun_mk (st := topS 20) l10 c10 k10
  have B10 := F10.binds (ps := ["_law_found", "_law_due"]) fun _ _ _ _ _ _ us hl => match us, hl with | [_, _], _ => rfl
  have F11 := fun_mk (st := topS 21) l11 c11 k11
  have B11 := F11.binds (ps := ["_law_thing_here"]) fun _ _ _ _ _ _ us hl => match us, hl with | [_], _ => rfl
  have F12 := fun_mk (st := topS 22) l12 c12 k12
  have B12 := F12.binds (ps := ["_law_script"]) fun _ _ _ _ _ _ us hl => match us, hl with | [_], _ => rfl
  have A : ∀ e ∈ tab, EntAt K mg e := by
    intro e he
    simp only [tab, List.mem_cons, List.not_mem_nil, or_false] at he
    rcases he with rfl | rfl | rfl | rfl | rfl | rfl | rfl | rfl | rfl | rfl | rfl | rfl | rfl
    · exact ⟨_, _, F0, PySem.W.mg_of X G a0, B0⟩
    · exact ⟨_, _, F1, PySem.W.mg_of X G a1, B1⟩
    · exact ⟨_, _, F2, PySem.W.mg_of X G a2, B2⟩
    · exact ⟨_, _, F3, PySem.W.mg_of X G a3, B3⟩
    · exact ⟨_, _, F4, PySem.W.mg_of X G a4, B4⟩
    · exact ⟨_, _, F5, PySem.W.mg_of X G a5, B5⟩
    · exact ⟨_, _, F6, PySem.W.mg_of X G a6, B6⟩
    · exact ⟨_, _, F7, PySem.W.mg_of X G a7, B7⟩
    · exact ⟨_, _, F8, PySem.W.mg_of X G a8, B8⟩
    · exact ⟨_, _, F9, PySem.W.mg_of X G a9, B9⟩
    · exact ⟨_, _, F10, PySem.W.mg_of X G a10, B10⟩
    · exact ⟨_, _, F11, PySem.W.mg_of X G a11, B11⟩
    · exact ⟨_, _, F12, PySem.W.mg_of X G a12, B12⟩
  have O : ∀ e ∈ tab, EntOk ⟨cs, tabF tab⟩ e := by
    intro e he
    simp only [tab, List.mem_cons, List.not_mem_nil, or_false] at he
    rcases he with rfl | rfl | rfl | rfl | rfl | rfl | rfl | rfl | rfl | rfl | rfl | rfl | rfl
    · exact ok0
    · exact ok1
    · exact ok2
    · exact ok3
    · exact ok4
    · exact ok5
    · exact ok6
    · exact ok7
    · exact ok8
    · exact ok9
    · exact ok10
    · exact ok11
    · exact ok12
  have hP : ∀ e ∈ tab, tabP tab e.ix = some ⟨e.ks, e.N.length, e.body⟩ := by
    intro e he
    simp only [tab, List.mem_cons, List.not_mem_nil, or_false] at he
    rcases he with rfl | rfl | rfl | rfl | rfl | rfl | rfl | rfl | rfl | rfl | rfl | rfl | rfl <;> rfl
  have hb : ∀ x ∈ bnames, mg x = none := by
    intro x hx
    simp only [bnames, List.mem_cons, List.not_mem_nil, or_false] at hx
    rcases hx with rfl | rfl | rfl | rfl | rfl | rfl | rfl | rfl | rfl | rfl | rfl | rfl
    · exact PySem.W.mg_none_of X G z0
    · exact PySem.W.mg_none_of X G z1
    · exact PySem.W.mg_none_of X G z2
    · exact PySem.W.mg_none_of X G z3
    · exact PySem.W.mg_none_of X G z4
    · exact PySem.W.mg_none_of X G z5
    · exact PySem.W.mg_none_of X G z6
    · exact PySem.W.mg_none_of X G z7
    · exact PySem.W.mg_none_of X G z8
    · exact PySem.W.mg_none_of X G z9
    · exact PySem.W.mg_none_of X G z10
    · exact PySem.W.mg_none_of X G z11
  have hc : ∀ x d, cs.lookup x = some d → ∃ u v, mg x = some u ∧ RelV v u ∧ ∀ F H, Rep K F H v d [] := by
    intro x d hx
    have hm := mem_of_lookup hx
    simp only [cs, List.mem_cons, List.not_mem_nil, or_false, Prod.mk.injEq] at hm
    rcases hm with ⟨rfl, rfl⟩ | ⟨rfl, rfl⟩ | ⟨rfl, rfl⟩ | ⟨rfl, rfl⟩ | ⟨rfl, rfl⟩ | ⟨rfl, rfl⟩ | ⟨rfl, rfl⟩
    · exact ⟨_, .str ⟨List.toArray [46, 97, 98, 99, 100, 101, 102, 103, 104, 105, 106, 107, 108, 109, 110, 111, 112, 113, 114, 115, 116, 117, 118, 119, 120, 121, 122]⟩, PySem.W.mg_of X G m0, ⟨t0, by rw [y0]⟩, fun F H => .str _ (by decide)⟩
    · exact ⟨_, .str ⟨List.toArray [47]⟩, PySem.W.mg_of X G m1, ⟨t1, by rw [y1]⟩, fun F H => .str _ (by decide)⟩
    · exact ⟨_, .str ⟨List.toArray [42, 42]⟩, PySem.W.mg_of X G m2, ⟨t2, by rw [y2]⟩, fun F H => .str _ (by decide)⟩
    · exact ⟨_, .str ⟨List.toArray [42]⟩, PySem.W.mg_of X G m3, ⟨t3, by rw [y3]⟩, fun F H => .str _ (by decide)⟩
    · exact ⟨_, .str ⟨List.toArray [63]⟩, PySem.W.mg_of X G m4, ⟨t4, by rw [y4]⟩, fun F H => .str _ (by decide)⟩
    · exact ⟨_, .int 5, PySem.W.mg_of X G m5, ⟨t5, by rw [y5]⟩, fun F H => .int _⟩
    · exact ⟨_, .int 8, PySem.W.mg_of X G m6, ⟨t6, by rw [y6]⟩, fun F H => .int _⟩
  refine ⟨_, fun s v => .of_eq rfl, fun base _ _ => (one_fn (T := tab) (e := e12) (all_fns hc hb O hP A 7) rfl ok12 F12).imp ?_⟩
  exact law_imp law_runs
end Z
open PySem PySem.W PyProof.Rows
set_option maxHeartbeats 0 in
theorem PySem.Challenge.cw_lookdue_k03_what_is_a_pattern_holds : PySem.Challenge.rw_lookdue_k03_what_is_a_pattern.Holds := by
  w_on; o_law; k_head; (case hw => w_witness2)
  k_fill
  refine L2.walk_of (l := PySem.Challenge.rw_lookdue_k03_what_is_a_pattern) (n := 63) (k := 8) (x := "_law_script") (CX := fun _ => L2.CX0) (sp := fun w => Z.spLaw _ 63) rfl (by decide) rfl ⟨rfl, by decide, by decide⟩ (fun w h Y => PySem.W.kIn_of Y) ?F (fun _ _ a ns hl _ hS => ⟨a, ns, rfl, hS, hl, fun _ => rfl⟩) (fun _ _ _ _ _ h => h)
  case F =>
    intro w mg fa h KX G hmg
    refine' Z.all_mk KX G hmg ?a0 ?l0 ?c0 ?k0 ?a1 ?l1 ?c1 ?k1 ?a2 ?l2 ?c2 ?k2 ?a3 ?l3 ?c3 ?k3 ?a4 ?l4 ?c4 ?k4 ?a5 ?l5 ?c5 ?k5 ?a6 ?l6 ?c6 ?k6 ?a7 ?l7 ?c7 ?k7 ?a8 ?l8 ?c8 ?k8 ?a9 ?l9 ?c9 ?k9 ?a10 ?l10 ?c10 ?k10 ?a11 ?l11 ?c11 ?k11 ?a12 ?l12 ?c12 ?k12 ?m0 ?y0 ?m1 ?y1 ?m2 ?y2 ?m3 ?y3 ?m4 ?y4 ?m5 ?y5 ?m6 ?y6 ?z0 ?z1 ?z2 ?z3 ?z4 ?z5 ?z6 ?z7 ?z8 ?z9 ?z10 ?z11
    (case a0 => k_is)
    (case l0 => k_is)
    (case c0 => k_is)
    (case k0 => k_is)
    (case a1 => k_is)
    (case l1 => k_is)
    (case c1 => k_is)
    (case k1 => k_is)
    (case a2 => k_is)
    (case l2 => k_is)
    (case c2 => k_is)
    (case k2 => k_is)
    (case a3 => k_is)
    (case l3 => k_is)
    (case c3 => k_is)
    (case k3 => k_is)
    (case a4 => k_is)
    (case l4 => k_is)
    (case c4 => k_is)
    (case k4 => k_is)
    (case a5 => k_is)
    (case l5 => k_is)
    (case c5 => k_is)
    (case k5 => k_is)
    (case a6 => k_is)
    (case l6 => k_is)
    (case c6 => k_is)
    (case k6 => k_is)
    (case a7 => k_is)
    (case l7 => k_is)
    (case c7 => k_is)
    (case k7 => k_is)
    (case a8 => k_is)
    (case l8 => k_is)
    (case c8 => k_is)
    (case k8 => k_is)
    (case a9 => k_is)
    (case l9 => k_is)
    (case c9 => k_is)
    (case k9 => k_is)
    (case a10 => k_is)
    (case l10 => k_is)
    (case c10 => k_is)
    (case k10 => k_is)
    (case a11 => k_is)
    (case l11 => k_is)
    (case c11 => k_is)
    (case k11 => k_is)
    (case a12 => k_is)
    (case l12 => k_is)
    (case c12 => k_is)
    (case k12 => k_is)
    (case m0 => k_is)
    (case m1 => k_is)
    (case m2 => k_is)
    (case m3 => k_is)
    (case m4 => k_is)
    (case m5 => k_is)
    (case m6 => k_is)
    (case y0 => first | rfl | kernel_rfl | decide)
    (case y1 => first | rfl | kernel_rfl | decide)
    (case y2 => first | rfl | kernel_rfl | decide)
    (case y3 => first | rfl | kernel_rfl | decide)
    (case y4 => first | rfl | kernel_rfl | decide)
    (case y5 => first | rfl | kernel_rfl | decide)
    (case y6 => first | rfl | kernel_rfl | decide)
    (case z0 => k_is)
    (case z1 => k_is)
    (case z2 => k_is)
    (case z3 => k_is)
    (case z4 => k_is)
    (case z5 => k_is)
    (case z6 => k_is)
    (case z7 => k_is)
    (case z8 => k_is)
    (case z9 => k_is)
    (case z10 => k_is)
    (case z11 => k_is)


