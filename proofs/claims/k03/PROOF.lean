import PyProof.Rows.All
import Wide.All
import OpenK.AllK
import Wide.FinOn
import HandS.ForMost
import HandS.Deep
import HandS.TupAny
import HandS.TupMul
import HandS.IsInst
import HandS.Gcd
import HandS.Wide
import HandS.Flow
import HandS.Style
import HandS.Star
import HandS.Conv
import HandS.Defaults
import HandS.MakeKwOnly
import HandS.Zip
import KE.GoesEnum
import HandS.EndBits
import HandS.Words
import HandS.EndOwn
import PySem.Challenge.RW_swayhouse_k03_whole_pays_best_actions_va
set_option Elab.async false
set_option linter.all false
set_option maxRecDepth 1000000
set_option maxHeartbeats 4000000
/-! Ev: a small functional semantics (trees for values, an abstract store for mutable lists) of the plain part of the language, over the hand layer. Part A: values, the abstract code, what it does. -/
namespace Ev
open PySem PySem.Spec PyProof.Rows L2

/-- a value as a tree; ref n: the n-th object of the abstract store -/
inductive D where
  | non | bl (b : Bool) | int (i : Int) | str (s : Str) | tup (xs : List D) | lst (xs : List D) | ref (n : Nat) | scr (ns : List Int)
  deriving Inhabited
/-- an object of the abstract store -/
inductive AO where
  | lst (xs : List D)
  | dic (kvs : List (D × D))
  deriving Inhabited
abbrev AH := List AO
abbrev En := List (Option D)

mutual
def D.py : D → PyData
  | .non => .none | .bl b => .bool b | .int i => .int i | .str s => .str s
  | .tup xs => .tuple (D.pys xs) | .lst xs => .list (D.pys xs) | .ref _ => .none | .scr _ => .none
def D.pys : List D → List PyData
  | [] => [] | x :: xs => x.py :: D.pys xs
end
mutual
def D.cl : D → Bool
  | .non => true | .bl _ => true | .int _ => true | .str _ => true | .ref _ => false | .scr _ => false
  | .tup xs => D.cls xs | .lst xs => D.cls xs
def D.cls : List D → Bool
  | [] => true | x :: xs => x.cl && D.cls xs
end
/-- data without references, of a shape that == walks -/
def D.ok (d : D) : Bool := d.cl && SeqAt.shaped d.py
mutual
/-- refs below n alone -/
def D.bel (n : Nat) : D → Bool
  | .non => true | .bl _ => true | .int _ => true | .str _ => true | .ref k => decide (k < n) | .scr _ => true
  | .tup xs => D.bels n xs | .lst xs => D.bels n xs
def D.bels (n : Nat) : List D → Bool
  | [] => true | x :: xs => x.bel n && D.bels n xs
end
def AO.bel (n : Nat) : AO → Bool
  | .lst xs => D.bels n xs
  | .dic kvs => kvs.all fun p => p.1.bel n && p.2.bel n

/-- operators -/
inductive BOp where | add | sub | mul | fdiv | mod | pow
inductive COp where | eq | ne | lt | le | gt | ge | is | isn | in_ | nin
inductive BI where | len | isi (T : List String) | all | any | sum | list | tuple | int | abs | max2 | min2 | divmod | gcd | listRange | repr | maxL | minL | sorted | bool | str
inductive MT where | append | insert | extend | pop | popAt | index | count | join
mutual
inductive XE where
  | var (i : Nat) | int (i : Int) | bl (b : Bool) | non | str (s : Str) | gc (x : Str) (d : D) | hole
  | tup (es : XEs) | lst (h : Bool) (es : XEs)
  | bin (op : BOp) (h : Bool) (a b : XE) | neg (a : XE)
  | cmp (op : COp) (a b : XE) | chain (o1 o2 : COp) (a b c : XE)
  | and (es : XEs) | or (es : XEs) | not (a : XE) | ite (t a b : XE)
  | ix (a i : XE) | sl (a lo hi : XE) | rev (a : XE)
  | call (f : Str) (es : XEs) | callk (f : Str) (es : XEs) (ks : List Str) (kes : XEs) (perm : List Nat)
  | bi (b : BI) (h : Bool) (es : XEs) | meth (m : MT) (o : XE) (es : XEs)
  | lc (h : Bool) (g : XG)
inductive XEs where | nil | cons (e : XE) (es : XEs) | star (e : XE) (es : XEs)
/-- one clause of a comprehension: the slots that it empties, target, source, test (XE.hole: none), what is within -/
inductive XG where | mk (own : List Nat) (tg : XT) (src : XI) (t : XE) (b : XB)
inductive XB where | el (e : XE) | gn (g : XG)
/-- what is walked -/
inductive XI where | seq (e : XE) | range1 (e : XE) | range2 (a b : XE) | enum (e : XE) | zip (a b : XE) | rng3 (a b c : XE) | revd (e : XE)
/-- targets -/
inductive XT where | name (i : Nat) | tup (gs : XTs) | sub (o i : XE)
inductive XTs where | nil | cons (g : XT) (gs : XTs)
end
mutual
inductive XS where
  | expr (e : XE) | ret (e : XE) | retN | asg (g : XT) (e : XE) | par (is : List Nat) (es : XEs) | aug (i : Nat) (op : BOp) (e : XE)
  | ite (t : XE) (a b : XSs) | for_ (g : XT) (src : XI) (body : XSs) | while_ (t : XE) (body : XSs)
  | pass | brk | cnt | never
inductive XSs where | nil | cons (s : XS) (ss : XSs)
end
def XSs.ofList : List XS → XSs
  | [] => .nil | s :: r => .cons s (XSs.ofList r)
def XEs.ofList : List XE → XEs
  | [] => .nil | s :: r => .cons s (XEs.ofList r)
def XTs.ofList : List XT → XTs
  | [] => .nil | s :: r => .cons s (XTs.ofList r)
end Ev
/-! Ev part B: what the abstract code does. -/
namespace Ev
open PySem PySem.Spec PyProof.Rows L2

/-- the items of a list, be it a tree or in the store -/
def lstOf (h : AH) : D → Option (List D)
  | .lst xs => some xs
  | .ref n => match h[n]? with | some (.lst xs) => some xs | _ => none
  | _ => none
def seqOf (h : AH) : D → Option (List D)
  | .tup xs => some xs
  | .scr ns => some (ns.map .int)
  | d => lstOf h d
/-- a list of the store seen as a tree -/
def view (h : AH) : D → D
  | .ref n => match h[n]? with | some (.lst xs) => .lst xs | _ => .ref n
  | d => d
def most : Nat := 1000000
def cut {α : Type} (xs : List α) (lo hi : Option Int) : List α := (xs.drop (HT.sIx xs.length 0 lo)).take (HT.sIx xs.length xs.length hi - HT.sIx xs.length 0 lo)

/-- a result: a value, or a fresh list -/
inductive Rz where | val (d : D) | new (xs : List D)
def Rz.fin (hp : Bool) (h : AH) : Rz → Option (D × AH)
  | .val d => if hp then none else some (d, h)
  | .new xs => if hp then some (.ref h.length, h ++ [.lst xs]) else some (.lst xs, h)
def mulOk (i j : Int) : Bool := decide (i.natAbs.log2 + j.natAbs.log2 < 100000000)

def dBin (h : AH) (op : BOp) (a b : D) : Option Rz :=
  match op with
  | .add => match a, b with
    | .int i, .int j => some (.val (.int (i + j)))
    | .str i, .str j => if i.length + j.length ≤ most then some (.val (.str (i ++ j))) else none
    | .tup xs, .tup ys => if xs.length + ys.length ≤ most then some (.val (.tup (xs ++ ys))) else none
    | a, b => match lstOf h a, lstOf h b with
      | some xs, some ys => if xs.length + ys.length ≤ most then some (.new (xs ++ ys)) else none
      | _, _ => none
  | .sub => match a, b with | .int i, .int j => some (.val (.int (i - j))) | _, _ => none
  | .mul => match a, b with
    | .int i, .int j => if mulOk i j then some (.val (.int (i * j))) else none
    | .tup xs, .int k => if xs.length ≤ 1000 ∧ 2 ≤ k ∧ k ≤ 1000 ∧ xs ≠ [] then some (.val (.tup (List.replicate k.toNat xs).flatten)) else none
    | .lst xs, .int k => if xs.length ≤ 1000 ∧ 0 ≤ k ∧ k ≤ 1000 then some (.new (List.replicate k.toNat xs).flatten) else none
    | _, _ => none
  | .fdiv => match a, b with | .int i, .int j => if j ≠ 0 then some (.val (.int (i.fdiv j))) else none | _, _ => none
  | .mod => match a, b with | .int i, .int j => if j ≠ 0 then some (.val (.int (i.fmod j))) else none | _, _ => none
  | .pow => match a, b with | .int i, .int j => if 0 ≤ j ∧ j ≤ 1000000 ∧ i.natAbs < 2 ^ 64 then some (.val (.int (i ^ j.toNat))) else none | _, _ => none
def dCmp (h : AH) (op : COp) (a b : D) : Option Bool :=
  match op with
  | .eq => match a, b with
    | .str x, .str y => some (decide (x = y))
    | a, b => if (view h a).ok && (view h b).ok then some (PyData.eqv (view h a).py (view h b).py) else none
  | .ne => match a, b with
    | .str x, .str y => some (!decide (x = y))
    | a, b => if (view h a).ok && (view h b).ok then some (!PyData.eqv (view h a).py (view h b).py) else none
  | .lt => match a, b with | .int i, .int j => some (decide (i < j)) | _, _ => none
  | .le => match a, b with | .int i, .int j => some (decide (i ≤ j)) | _, _ => none
  | .gt => match a, b with | .int i, .int j => some (decide (j < i)) | _, _ => none
  | .ge => match a, b with | .int i, .int j => some (decide (j ≤ i)) | _, _ => none
  | .is => match b with
    | .non => some (match a with | .non => true | _ => false)
    | .bl k => match a with | .bl j => some (decide (j = k)) | _ => none
    | _ => none
  | .isn => match b with
    | .non => some (match a with | .non => false | _ => true)
    | .bl k => match a with | .bl j => some (!decide (j = k)) | _ => none
    | _ => none
  | .in_ => match view h b with
    | .lst ys => if a.ok && (D.lst ys).ok then some ((D.pys ys).any fun z => PyData.eqv z a.py) else none
    | .tup ys => if a.ok && (D.tup ys).ok then some ((D.pys ys).any fun z => PyData.eqv z a.py) else none
    | _ => none
  | .nin => match view h b with
    | .lst ys => if a.ok && (D.lst ys).ok then some (!(D.pys ys).any fun z => PyData.eqv z a.py) else none
    | .tup ys => if a.ok && (D.tup ys).ok then some (!(D.pys ys).any fun z => PyData.eqv z a.py) else none
    | _ => none
def truth (h : AH) : D → Option Bool
  | .non => some false
  | .bl b => some b
  | .int i => some (i != 0)
  | .str s => if s.length ≤ most then some (s.length != 0) else none
  | .tup xs => some (!xs.isEmpty)
  | d => (lstOf h d).map fun xs => !xs.isEmpty
def dIx (h : AH) (a i : D) : Option D :=
  match i with
  | .int i => match seqOf h a with | some xs => atI xs i | none => none
  | _ => none
/-- the name of a value's class -/
def tyN (h : AH) : D → String
  | .non => "NoneType" | .bl _ => "bool" | .int _ => "int" | .str _ => "str" | .tup _ => "tuple" | .lst _ => "list"
  | .ref n => match h[n]? with | some (.lst _) => "list" | some (.dic _) => "dict" | none => "?"
  | .scr _ => "list"
def isiB (c t : String) : Bool := c == t || (c == "bool" && t == "int")
def dints : List D → Option (List Int)
  | [] => some []
  | .int i :: r => (dints r).map (i :: ·)
  | _ :: _ => none
def bls : List D → Option (List Bool)
  | [] => some []
  | .bl i :: r => (bls r).map (i :: ·)
  | _ :: _ => none
def rngD (lo : Int) (n : Nat) : List D := (List.range n).map fun i => .int (lo + (i : Nat))
def isSeq : D → Bool | .tup _ => true | .lst _ => true | _ => false
/-- data whose text can be told -/
def repOk (d : D) : Bool := isSeq d && d.cl && d.py.showable && decide (d.py.shown.length ≤ 15000000) && decide (d.py.depth ≤ 100)
def dB1 (h : AH) (b : BI) (a : D) : Option Rz :=
  match b with
  | .len => match a with
    | .str s => if s.length ≤ most then some (.val (.int s.length)) else none
    | a => match seqOf h a with | some xs => some (.val (.int xs.length)) | none => none
  | .isi T => some (.val (.bl (T.any fun t => isiB (tyN h a) t)))
  | .all => match lstOf h a with | some xs => (match bls xs with | some bs => some (.val (.bl (bs.all id))) | none => none) | none => none
  | .any => match lstOf h a with | some xs => (match bls xs with | some bs => some (.val (.bl (bs.any id))) | none => none) | none => none
  | .sum => match lstOf h a with | some xs => (match dints xs with | some ns => some (.val (.int ns.sum)) | none => none) | none => none
  | .list => match seqOf h a with | some xs => some (.new xs) | none => none
  | .tuple => match a with
    | .tup xs => some (.val (.tup xs))
    | a => match lstOf h a with | some xs => some (.val (.tup xs)) | none => none
  | .int => match a with | .int i => some (.val (.int i)) | .bl k => some (.val (.int (if k then 1 else 0))) | _ => none
  | .abs => match a with | .int i => some (.val (.int (if i < 0 then -i else i))) | _ => none
  | .repr => if repOk (view h a) then some (.val (.str (view h a).py.shown)) else none
  | .listRange => match a with | .int n => if -(2 ^ 62) ≤ n ∧ n ≤ most then some (.new (rngD 0 n.toNat)) else none | _ => none
  | _ => none
def dB2 (b : BI) (i j : Int) : Option Rz :=
  match b with
  | .max2 => some (.val (.int (if j > i then j else i)))
  | .min2 => some (.val (.int (if j < i then j else i)))
  | .divmod => if j ≠ 0 then some (.val (.tup [.int (i.fdiv j), .int (i.fmod j)])) else none
  | .gcd => some (.val (.int ((Nat.gcd i.natAbs j.natAbs : Nat) : Int)))
  | .listRange => if -(2 ^ 62) ≤ i ∧ i < most ∧ -(2 ^ 62) ≤ j ∧ j < most ∧ (j - i).toNat ≤ most then some (.new (rngD i (j - i).toNat)) else none
  | _ => none
def dBI (h : AH) (b : BI) (as : List D) : Option Rz :=
  match as with
  | [a] => dB1 h b a
  | [.int i, .int j] => dB2 b i j
  | _ => none
/-- methods of a list of the store: the answer, the list behind it -/
def dMt (h : AH) (m : MT) (xs : List D) (as : List D) : Option (D × List D) :=
  match m with
  | .append => match as with | [d] => if xs.length < most then some (.non, xs ++ [d]) else none | _ => none
  | .insert => match as with
    | [.int i, d] => if 0 ≤ i ∧ i ≤ most ∧ xs.length < most then some (.non, xs.take i.toNat ++ [d] ++ xs.drop i.toNat) else none
    | _ => none
  | .extend => match as with
    | [b] => match lstOf h b with | some ys => if xs.length + ys.length ≤ most then some (.non, xs ++ ys) else none | none => none
    | _ => none
  | .pop => match as with | [] => (match xs[xs.length - 1]? with | some y => some (y, xs.dropLast) | none => none) | _ => none
  | _ => none
def dMeth (h : AH) (m : MT) (o : D) (as : List D) : Option (D × AH) :=
  match o with
  | .ref n => match h[n]? with
    | some (.lst xs) => match dMt h m xs as with | some (d, ys) => some (d, h.set n (.lst ys)) | none => none
    | _ => none
  | _ => none

abbrev CF := Str → List D → AH → Option (D × AH)
abbrev Ck := Option (Nat × List D)
/-- a list of the store that is walked stands as it stood -/
def ckOk : Ck → AH → Prop
  | none, _ => True
  | some (n, ds), h => h[n]? = some (.lst ds)
/-- walking a comprehension's items -/
noncomputable def lcL (ck : Ck) (f : D → AH → Option (List D × AH)) : List D → List D → AH → Option (List D × AH)
  | [], acc, h => open Classical in if ckOk ck h then some (acc, h) else none
  | d :: ds, acc, h => open Classical in if ckOk ck h then
      match f d h with
      | some (xs, h') => if acc.length + xs.length < most then lcL ck f ds (acc ++ xs) h' else none
      | none => none
    else none
def wipeE (e : En) (own : List Nat) : En := own.foldl (fun e i => e.set i none) e

/-- what a row of expressions does: as values; and, or of values; and, or of tests -/
structure Ls where
  l : En → AH → Option (List D × AH)
  av : En → AH → Option (D × AH)
  ov : En → AH → Option (D × AH)
  at_ : En → AH → Option (Bool × AH)
  ot : En → AH → Option (Bool × AH)
abbrev SE := En → AH → Option (D × AH)
abbrev ST := En → AH → Option (Bool × AH)
abbrev SL := En → AH → Option (List D × AH)
def aVar (i : Nat) : SE := fun e h => match e[i]? with | some (some d) => some (d, h) | _ => none
def aC (d : D) : SE := fun _ h => some (d, h)
def tst (f : SE) : ST := fun e h => match f e h with
  | some (x, h) => match truth h x with | some k => some (k, h) | none => none
  | none => none
def aTup (f : SL) : SE := fun e h => match f e h with | some (ds, h) => if ds.length ≤ most then some (.tup ds, h) else none | none => none
def aLst (p : Bool) (f : SL) : SE := fun e h => match f e h with | some (ds, h) => if ds.length ≤ most then (Rz.new ds).fin p h else none | none => none
def aBin (op : BOp) (p : Bool) (f g : SE) : SE := fun e h => match f e h with
    | some (x, h) => match g e h with
      | some (y, h) => match dBin h op x y with | some r => r.fin p h | none => none
      | none => none
    | none => none
def aNeg (f : SE) : SE := fun e h => match f e h with | some (.int i, h) => some (.int (-i), h) | _ => none
def aCmp (op : COp) (f g : SE) : SE := fun e h => match f e h with
    | some (x, h) => match g e h with
      | some (y, h) => match dCmp h op x y with | some k => some (.bl k, h) | none => none
      | none => none
    | none => none
def aChain (o1 o2 : COp) (f g g3 : SE) : SE := fun e h => match f e h with
    | some (x, h) => match g e h with
      | some (y, h) => match dCmp h o1 x y with
        | some k => if k then match g3 e h with
            | some (z, h) => match dCmp h o2 y z with | some k => some (.bl k, h) | none => none
            | none => none
          else some (.bl false, h)
        | none => none
      | none => none
    | none => none
def aNot (f : SE) : SE := fun e h => match f e h with | some (.bl k, h) => some (.bl (!k), h) | _ => none
def aIte {α : Type} (t : ST) (f g : En → AH → Option (α × AH)) : En → AH → Option (α × AH) := fun e h => match t e h with
    | some (k, h) => if k then f e h else g e h
    | none => none
def aIx (f g : SE) : SE := fun e h => match f e h with
    | some (x, h) => match g e h with
      | some (y, h) => match dIx h x y with | some d => some (d, h) | none => none
      | none => none
    | none => none
def dCut (h : AH) (x : D) (l u : Option Int) : Option D := match x with
  | .tup xs => some (.tup (cut xs l u))
  | .scr ns => some (.lst (cut (ns.map .int) l u))
  | x => match lstOf h x with | some xs => some (.lst (cut xs l u)) | none => none
def aO (p : XE) (f : SE) : En → AH → Option (Option Int × AH) := fun e h => match p with
  | .hole => some (none, h)
  | _ => match f e h with | some (.int i, h) => some (some i, h) | _ => none
def aSl (f : SE) (lo hi : En → AH → Option (Option Int × AH)) : SE := fun e h => match f e h with
    | some (x, h) => match lo e h with
      | some (l, h) => match hi e h with
        | some (u, h) => match dCut h x l u with | some d => some (d, h) | none => none
        | none => none
      | none => none
    | none => none
def dRev (h : AH) (x : D) : Option D := match x with
  | x => match lstOf h x with | some xs => some (.lst xs.reverse) | none => none
def aRev (f : SE) : SE := fun e h => match f e h with
    | some (x, h) => match dRev h x with | some d => some (d, h) | none => none
    | none => none
def aCall (cf : CF) (g : Str) (f : SL) : SE := fun e h => match f e h with | some (ds, h) => cf g ds h | none => none
def aCallk (cf : CF) (g : Str) (perm : List Nat) (f fk : SL) : SE := fun e h => match f e h with
    | some (ds, h) => match fk e h with
      | some (ks, h) => cf g (perm.filterMap fun i => (ds ++ ks)[i]?) h
      | none => none
    | none => none
def aBi (b : BI) (p : Bool) (f : SL) : SE := fun e h => match f e h with
    | some (ds, h) => match dBI h b ds with | some r => r.fin p h | none => none
    | none => none
def aMeth (m : MT) (f : SE) (g : SL) : SE := fun e h => match f e h with
    | some (x, h) => match g e h with
      | some (ds, h) => dMeth h m x ds
      | none => none
    | none => none
def aFin (p : Bool) (f : SL) : SE := fun e h => match f e h with | some (xs, h) => (Rz.new xs).fin p h | none => none
def aCons (f : SE) (g : SL) : SL := fun e h => match f e h with
    | some (x, h) => match g e h with | some (ds, h) => some (x :: ds, h) | none => none
    | none => none
def aStar (f : SE) (g : SL) : SL := fun e h => match f e h with
    | some (x, h) => match seqOf h x with
      | some xs => match g e h with | some (ds, h) => some (xs ++ ds, h) | none => none
      | none => none
    | none => none
def aAndV (f : SE) (es : XEs) (g : SE) : SE := fun e h => match es with
  | .nil => f e h
  | _ => match f e h with | some (.bl k, h) => if k then g e h else some (.bl false, h) | _ => none
def aOrV (f : SE) (es : XEs) (g : SE) : SE := fun e h => match es with
  | .nil => f e h
  | _ => match f e h with | some (.bl k, h) => if k then some (.bl true, h) else g e h | _ => none
def aAnd (f g : ST) : ST := fun e h => match f e h with | some (k, h) => if k then g e h else some (false, h) | none => none
def aOr (f g : ST) : ST := fun e h => match f e h with | some (k, h) => if k then some (true, h) else g e h | none => none
def aNotT (f : ST) : ST := fun e h => match f e h with | some (k, h) => some (!k, h) | none => none
abbrev SI := En → AH → Option (List D × Ck × AH)
def aSeq (f : SE) : SI := fun e h => match f e h with
    | some (x, h) => match x with
      | .ref n => match h[n]? with | some (.lst xs) => some (xs, some (n, xs), h) | _ => none
      | x => match seqOf h x with | some xs => some (xs, none, h) | none => none
    | none => none
def aRange1 (f : SE) : SI := fun e h => match f e h with
    | some (.int n, h) => if -(2 ^ 62) ≤ n ∧ n < 2 ^ 62 then some (rngD 0 n.toNat, none, h) else none
    | _ => none
def aRange2 (f g : SE) : SI := fun e h => match f e h with
    | some (.int i, h) => match g e h with
      | some (.int n, h) => if -(2 ^ 62) ≤ i ∧ i < 2 ^ 62 ∧ -(2 ^ 62) ≤ n ∧ n < 2 ^ 62 then some (rngD i (n - i).toNat, none, h) else none
      | _ => none
    | _ => none
def enumD (xs : List D) : List D := xs.zipIdx.map fun p => .tup [.int (p.2 : Nat), p.1]
def zipD (xs ys : List D) : List D := (xs.zip ys).map fun p => .tup [p.1, p.2]
def aEnum (f : SE) : SI := fun e h => match f e h with
    | some (x, h) => match x with
      | .ref n => match h[n]? with | some (.lst xs) => some (enumD xs, some (n, xs), h) | _ => none
      | .lst xs => some (enumD xs, none, h)
      | _ => none
    | none => none
/-- what zip walks -/
def zsrc : D → Option (List D)
  | .tup xs => some xs
  | .lst xs => some xs
  | .scr ns => some (ns.map .int)
  | _ => none
def aZip (f g : SE) : SI := fun e h => match f e h with
    | some (x, h) => match g e h with
      | some (y, h) => match zsrc x, zsrc y with
        | some xs, some ys => some (zipD xs ys, none, h)
        | _, _ => none
      | none => none
    | none => none
abbrev SG := D → En → AH → Option (En × AH)
abbrev SGs := List D → En → AH → Option (En × AH)
def gNm (i : Nat) : SG := fun d e h => some (e.set i (some d), h)
def gTp (g : SGs) : SG := fun d e h => match d with | .tup ds => g ds e h | _ => none
def gSb (f g : SE) : SG := fun d e h => match f e h with
    | some (.ref n, h) => match g e h with
      | some (.int i, h) => match h[n]? with
        | some (.lst xs) => match ixN xs.length i with | some j => some (e, h.set n (.lst (xs.set j d))) | none => none
        | _ => none
      | _ => none
    | _ => none
def gNl : SGs := fun ds e h => match ds with | [] => some (e, h) | _ => none
def gCn (g : SG) (gs : SGs) : SGs := fun ds e h => match ds with
  | d :: ds => match g d e h with | some (e, h) => gs ds e h | none => none
  | [] => none
def aOT (p : XE) (f : ST) : ST := fun e h => match p with | .hole => some (true, h) | _ => f e h
noncomputable def aGn (own : List Nat) (g : SG) (src : SI) (t : ST) (b : SL) : SL := fun e h => match src e h with
    | some (ds, ck, h) => lcL ck (fun d h => match g d (wipeE e own) h with
        | some (e, h) => match t e h with
          | some (k, h) => if k then b e h else some ([], h)
          | none => none
        | none => none) ds [] h
    | none => none
def aEl (f : SE) : SL := fun e h => match f e h with | some (x, h) => some ([x], h) | none => none

mutual
noncomputable def dP (cf : CF) : XE → SE × ST
  | .var i => (aVar i, tst (aVar i))
  | .int i => (aC (.int i), tst (aC (.int i)))
  | .bl b => (aC (.bl b), tst (aC (.bl b)))
  | .non => (aC .non, tst (aC .non))
  | .str s => (aC (.str s), tst (aC (.str s)))
  | .gc _ d => (aC d, tst (aC d))
  | .hole => (fun _ _ => none, fun _ _ => none)
  | .tup es => let f := aTup (dPs cf es).l; (f, tst f)
  | .lst p es => let f := aLst p (dPs cf es).l; (f, tst f)
  | .bin op p a b => let f := aBin op p (dP cf a).1 (dP cf b).1; (f, tst f)
  | .neg a => let f := aNeg (dP cf a).1; (f, tst f)
  | .cmp op a b => let f := aCmp op (dP cf a).1 (dP cf b).1; (f, tst f)
  | .chain o1 o2 a b c => let f := aChain o1 o2 (dP cf a).1 (dP cf b).1 (dP cf c).1; (f, tst f)
  | .and es => ((dPs cf es).av, (dPs cf es).at_)
  | .or es => ((dPs cf es).ov, (dPs cf es).ot)
  | .not a => (aNot (dP cf a).1, aNotT (dP cf a).2)
  | .ite t a b => (aIte (dP cf t).2 (dP cf a).1 (dP cf b).1, aIte (dP cf t).2 (dP cf a).2 (dP cf b).2)
  | .ix a i => let f := aIx (dP cf a).1 (dP cf i).1; (f, tst f)
  | .sl a lo hi => let f := aSl (dP cf a).1 (aO lo (dP cf lo).1) (aO hi (dP cf hi).1); (f, tst f)
  | .rev a => let f := aRev (dP cf a).1; (f, tst f)
  | .call g es => let f := aCall cf g (dPs cf es).l; (f, tst f)
  | .callk g es _ kes perm => let f := aCallk cf g perm (dPs cf es).l (dPs cf kes).l; (f, tst f)
  | .bi b p es => let f := aBi b p (dPs cf es).l; (f, tst f)
  | .meth m o es => let f := aMeth m (dP cf o).1 (dPs cf es).l; (f, tst f)
  | .lc p g => let f := aFin p (dGn cf g); (f, tst f)
noncomputable def dPs (cf : CF) : XEs → Ls
  | .nil => ⟨fun _ h => some ([], h), fun _ _ => none, fun _ _ => none, fun _ h => some (true, h), fun _ h => some (false, h)⟩
  | .cons a es => ⟨aCons (dP cf a).1 (dPs cf es).l, aAndV (dP cf a).1 es (dPs cf es).av, aOrV (dP cf a).1 es (dPs cf es).ov, aAnd (dP cf a).2 (dPs cf es).at_, aOr (dP cf a).2 (dPs cf es).ot⟩
  | .star a es => ⟨aStar (dP cf a).1 (dPs cf es).l, fun _ _ => none, fun _ _ => none, fun _ _ => none, fun _ _ => none⟩
noncomputable def dI (cf : CF) : XI → SI
  | .seq a => aSeq (dP cf a).1
  | .range1 a => aRange1 (dP cf a).1
  | .range2 a b => aRange2 (dP cf a).1 (dP cf b).1
  | .enum a => aEnum (dP cf a).1
  | .zip a b => aZip (dP cf a).1 (dP cf b).1
  | .rng3 _ _ _ => fun _ _ => none
  | .revd _ => fun _ _ => none
noncomputable def dG (cf : CF) : XT → SG
  | .name i => gNm i
  | .tup gs => gTp (dGs cf gs)
  | .sub o i => gSb (dP cf o).1 (dP cf i).1
noncomputable def dGs (cf : CF) : XTs → SGs
  | .nil => gNl
  | .cons g gs => gCn (dG cf g) (dGs cf gs)
noncomputable def dGn (cf : CF) : XG → SL
  | .mk own tg src t b => aGn own (dG cf tg) (dI cf src) (aOT t (dP cf t).2) (dB cf b)
noncomputable def dB (cf : CF) : XB → SL
  | .el a => aEl (dP cf a).1
  | .gn g => dGn cf g
end
noncomputable abbrev dE (cf : CF) (p : XE) : SE := (dP cf p).1
noncomputable abbrev dT (cf : CF) (p : XE) : ST := (dP cf p).2
noncomputable abbrev dEs (cf : CF) (p : XEs) : SL := (dPs cf p).l

inductive Out where | nx (e : En) (h : AH) | rt (d : D) (h : AH) | bk (e : En) (h : AH) | ct (e : En) (h : AH)
noncomputable def forL (ck : Ck) (f : D → En → AH → Option Out) : List D → En → AH → Option Out
  | [], e, h => open Classical in if ckOk ck h then some (.nx e h) else none
  | d :: ds, e, h => open Classical in if ckOk ck h then
      match f d e h with
      | some (.nx e h) => forL ck f ds e h
      | some (.ct e h) => forL ck f ds e h
      | some (.bk e h) => some (.nx e h)
      | some (.rt d h) => some (.rt d h)
      | none => none
    else none
def whL (t : En → AH → Option (Bool × AH)) (f : En → AH → Option Out) : Nat → En → AH → Option Out
  | 0, _, _ => none
  | n + 1, e, h => match t e h with
    | some (k, h) => if k then
        match f e h with
        | some (.nx e h) => whL t f n e h
        | some (.ct e h) => whL t f n e h
        | some (.bk e h) => some (.nx e h)
        | some (.rt d h) => some (.rt d h)
        | none => none
      else some (.nx e h)
    | none => none
def cExpr (f : SE) : En → AH → Option Out := fun e h => match f e h with | some (_, h) => some (.nx e h) | none => none
def cRet (f : SE) : En → AH → Option Out := fun e h => match f e h with | some (d, h) => some (.rt d h) | none => none
def cAsg (g : SG) (f : SE) : En → AH → Option Out := fun e h => match f e h with
  | some (d, h) => match g d e h with | some (e, h) => some (.nx e h) | none => none
  | none => none
def setAll (is : List Nat) (ds : List D) (e : En) : En := (is.zip ds).foldl (fun e p => e.set p.1 (some p.2)) e
def cPar (is : List Nat) (f : SL) : En → AH → Option Out := fun e h => match f e h with
  | some (ds, h) => if ds.length = is.length then some (.nx (setAll is ds e) h) else none
  | none => none
def augI (op : BOp) (j k : Int) : Option Int := match op with | .add => some (j + k) | .sub => some (j - k) | _ => none
def cAug (i : Nat) (op : BOp) (f : SE) : En → AH → Option Out := fun e h => match e[i]? with
  | some (some (.int j)) => match f e h with
    | some (.int k, h) => match augI op j k with | some r => some (.nx (e.set i (some (.int r))) h) | none => none
    | _ => none
  | _ => none
def cIte (t : ST) (f g : En → AH → Option Out) : En → AH → Option Out := fun e h => match t e h with
  | some (k, h) => if k then f e h else g e h
  | none => none
noncomputable def cFor (g : SG) (src : SI) (f : En → AH → Option Out) : En → AH → Option Out := fun e h => match src e h with
  | some (ds, ck, h) => forL ck (fun d e h => match g d e h with | some (e, h) => f e h | none => none) ds e h
  | none => none
def cSeq (f g : En → AH → Option Out) : En → AH → Option Out := fun e h => match f e h with
  | some (.nx e h) => g e h
  | o => o
mutual
noncomputable def dS (cf : CF) (n : Nat) : XS → En → AH → Option Out
  | .expr a => cExpr (dP cf a).1
  | .ret a => cRet (dP cf a).1
  | .retN => fun _ h => some (.rt .non h)
  | .asg g a => cAsg (dG cf g) (dP cf a).1
  | .par is es => cPar is (dPs cf es).l
  | .aug i op a => cAug i op (dP cf a).1
  | .ite t a b => cIte (dP cf t).2 (dSs cf n a) (dSs cf n b)
  | .for_ g src body => cFor (dG cf g) (dI cf src) (dSs cf n body)
  | .while_ t body => whL (dP cf t).2 (dSs cf n body) n
  | .pass => fun e h => some (.nx e h)
  | .brk => fun e h => some (.bk e h)
  | .cnt => fun e h => some (.ct e h)
  | .never => fun _ _ => none
noncomputable def dSs (cf : CF) (n : Nat) : XSs → En → AH → Option Out
  | .nil => fun e h => some (.nx e h)
  | .cons s ss => cSeq (dS cf n s) (dSs cf n ss)
end

/-! ### defs -/
structure Fn where
  ps : Nat
  slots : Nat
  body : XSs
  keep : Bool := false
mutual
/-- the store's own lists above n as trees -/
def freeze (n : Nat) (h : AH) : D → Option D
  | .ref k => if k < n then some (.ref k) else match h[k]? with
    | some (.lst xs) => if D.bels n xs then some (.lst xs) else none
    | _ => none
  | .tup xs => (freezes n h xs).map .tup
  | .lst xs => (freezes n h xs).map .lst
  | d => some d
def freezes (n : Nat) (h : AH) : List D → Option (List D)
  | [] => some []
  | x :: xs => match freeze n h x, freezes n h xs with | some y, some ys => some (y :: ys) | _, _ => none
end
/-- the old objects hold nothing new -/
def oldOk (h h' : AH) : Prop := ∀ k ao, k < h.length → h'[k]? = some ao → h[k]? = some ao ∨ ao.bel h.length = true
noncomputable def fin (keep : Bool) (h h' : AH) (d : D) : Option (D × AH) :=
  if h'.length = h.length then some (d, h') else
  open Classical in if oldOk h h' then
    if keep then
      match d with
      | .ref k => if h.length ≤ k then match h'[k]? with
          | some ao => if ao.bel h.length then some (.ref h.length, h'.take h.length ++ [ao]) else none
          | none => none
        else none
      | _ => none
    else (freeze h.length h' d).map fun d => (d, h'.take h.length)
  else none
noncomputable def run (F : Fn) (cf : CF) (n : Nat) (ds : List D) (h : AH) : Option (D × AH) :=
  match dSs cf n F.body (ds.map some ++ List.replicate (F.slots - ds.length) none) h with
  | some (.nx _ h') => fin F.keep h h' .non
  | some (.rt d h') => fin F.keep h h' d
  | _ => none
noncomputable def cF (T : List (Str × Fn)) (n : Nat) : Nat → CF
  | 0 => fun _ _ _ => none
  | k + 1 => fun f ds h => match T.lookup f with
    | some F => if ds.length = F.ps then run F (cF T n k) n ds h else none
    | none => none
end Ev
/-! Ev part C: trees and abstract objects against the tracked heap. -/
namespace Ev
open PySem PySem.Spec PyProof.Rows L2

/-- the places of the store's objects; places that are reserved (lists that a comprehension is just making) -/
structure Mz where
  m : List Addr
  z : List Addr
def Mz.out (m : Mz) (a : Addr) : Prop := a ∉ m.m ∧ a ∉ m.z
def Mz.push (m : Mz) (a : Addr) : Mz := ⟨m.m ++ [a], m.z⟩
def Mz.res (m : Mz) (a : Addr) : Mz := ⟨m.m, a :: m.z⟩
/-- a list that nobody writes -/
def SqF (K : PySem.W.Frag) (H : Hp) (a : Addr) (xs : List V) : Prop :=
  (∃ o, H a = some (.frz o (.lst xs))) ∨
    ∃ (o : Obj) (its : Array Value) (n : Nat), K.lookup a = some o ∧ o.cls = .type "list" ∧ o.dict = none ∧ o.data = .seq its n ∧ its.size ≤ sizeLine ∧ Vals xs its.toList
theorem SqF.sq {K : PySem.W.Frag} {H : Hp} {a : Addr} {xs : List V} (h : SqF K H a xs) : SqL K H a xs := by
  rcases h with h | h
  · exact .inl (.inr h)
  · exact .inr h
mutual
inductive RD (K : PySem.W.Frag) (m : Mz) (H : Hp) : D → V → Prop
  | non : RD K m H .non .non
  | bl (b : Bool) : RD K m H (.bl b) (.bl b)
  | int (i : Int) : RD K m H (.int i) (.int i)
  | str (s : Str) : RD K m H (.str s) (.str s)
  | tup {a : Addr} {vs : List V} {ds : List D} (h : SqT K H a vs) (r : RDs K m H ds vs) : RD K m H (.tup ds) (.ref a)
  | lst {a : Addr} {vs : List V} {ds : List D} (h : H a = some (.lst vs)) (n : m.out a) (r : RDs K m H ds vs) : RD K m H (.lst ds) (.ref a)
  | scr {a : Addr} {ns : List Int} (h : SqF K H a (ns.map V.int)) : RD K m H (.scr ns) (.ref a)
  | ref {n : Nat} {a : Addr} (h : m.m[n]? = some a) : RD K m H (.ref n) (.ref a)
inductive RDs (K : PySem.W.Frag) (m : Mz) (H : Hp) : List D → List V → Prop
  | nil : RDs K m H [] []
  | cons {d : D} {v : V} {ds : List D} {vs : List V} (a : RD K m H d v) (b : RDs K m H ds vs) : RDs K m H (d :: ds) (v :: vs)
end
/-- an abstract object at its place -/
def ROb (K : PySem.W.Frag) (m : Mz) (H : Hp) (a : Addr) : AO → Prop
  | .lst ds => ∃ vs, H a = some (.lst vs) ∧ RDs K m H ds vs
  | .dic _ => False
structure RH (K : PySem.W.Frag) (m : Mz) (H : Hp) (h : AH) : Prop where
  len : m.m.length = h.length
  nd : m.m.Nodup
  zs : ∀ b, b ∈ m.z → b ∉ m.m ∧ ∃ o, H b = some o
  ob : ∀ (n : Nat) (a : Addr) (o : AO), m.m[n]? = some a → h[n]? = some o → ROb K m H a o
structure RE (K : PySem.W.Frag) (m : Mz) (H : Hp) (σ : L2.St) (e : En) : Prop where
  len : e.length = σ.length
  at_ : ∀ (i : Nat) (d : D), e[i]? = some (some d) → ∃ v, σ[i]? = some (some v) ∧ RD K m H d v
/-- what stays true of what is outside the store -/
structure Wk (m : Mz) (H : Hp) (m' : Mz) (H' : Hp) : Prop where
  keep : ∀ b o, m.out b → H b = some o → H' b = some o ∧ m'.out b
  tups : ∀ b xs, H b = some (.tup xs) → H' b = some (.tup xs)
  frzs : ∀ b o u, H b = some (.frz o u) → H' b = some (.frz o u)
  pre : ∀ (n : Nat) (a : Addr), m.m[n]? = some a → m'.m[n]? = some a
/-- what may have happened: only the abstract store's own objects are written, new ones come behind -/
structure Stp (m : Mz) (H : Hp) (m' : Mz) (H' : Hp) : Prop extends Wk m H m' H' where
  there : ∀ b o, H b = some o → ∃ o', H' b = some o'
  zz : m'.z = m.z
  zk : ∀ b o, b ∈ m.z → b ∉ m.m → H b = some o → H' b = some o ∧ b ∉ m'.m
section
variable {K : PySem.W.Frag} {m m' m2 : Mz} {H H' H2 : Hp} {σ : L2.St} {e : En} {h : AH}
theorem Wk.trans (a : Wk m H m' H') (b : Wk m' H' m2 H2) : Wk m H m2 H2 where
  keep := fun c o n e => let ⟨e1, n1⟩ := a.keep c o n e; b.keep c o n1 e1
  tups := fun c xs e => b.tups c xs (a.tups c xs e)
  frzs := fun c o u e => b.frzs c o u (a.frzs c o u e)
  pre := fun n c e => b.pre n c (a.pre n c e)
theorem Stp.refl : Stp m H m H := ⟨⟨fun _ _ n e => ⟨e, n⟩, fun _ _ e => e, fun _ _ _ e => e, fun _ _ e => e⟩, fun _ _ e => ⟨_, e⟩, rfl, fun _ _ _ n e => ⟨e, n⟩⟩
theorem Stp.free (s : Stp m H m' H') {b : Addr} (e : H' b = none) : H b = none := by
  cases q : H b with
  | none => rfl
  | some o => obtain ⟨o', e'⟩ := s.there b o q; rw [e] at e'; cases e'
theorem Stp.trans (a : Stp m H m' H') (b : Stp m' H' m2 H2) : Stp m H m2 H2 where
  toWk := a.toWk.trans b.toWk
  there := fun c o e => let ⟨o', e'⟩ := a.there c o e; b.there c o' e'
  zz := b.zz.trans a.zz
  zk := fun c o h1 h2 e => let ⟨e1, n1⟩ := a.zk c o h1 h2 e; b.zk c o (by rw [a.zz]; exact h1) n1 e1
theorem Stp.same {H' : Hp} (s : Same H H') : Stp m H m H' := ⟨⟨fun _ _ n e => ⟨s _ _ e, n⟩, fun _ _ e => s _ _ e, fun _ _ _ e => s _ _ e, fun _ _ e => e⟩, fun _ _ e => ⟨_, s _ _ e⟩, rfl, fun _ _ _ n e => ⟨s _ _ e, n⟩⟩
theorem Wk.sqT (s : Wk m H m' H') {a : Addr} {xs : List V} (h : SqT K H a xs) : SqT K H' a xs := by
  rcases h with (h | ⟨o, h⟩) | h
  · exact .inl (.inl (s.tups _ _ h))
  · exact .inl (.inr ⟨o, s.frzs _ _ _ h⟩)
  · exact .inr h
theorem Wk.sqF (s : Wk m H m' H') {a : Addr} {xs : List V} (h : SqF K H a xs) : SqF K H' a xs := by
  rcases h with ⟨o, h⟩ | h
  · exact .inl ⟨o, s.frzs _ _ _ h⟩
  · exact .inr h
theorem Stp.sqT (s : Stp m H m' H') {a : Addr} {xs : List V} (h : SqT K H a xs) : SqT K H' a xs := s.toWk.sqT h
theorem Stp.sqF (s : Stp m H m' H') {a : Addr} {xs : List V} (h : SqF K H a xs) : SqF K H' a xs := s.toWk.sqF h
mutual
theorem RD.wk (s : Wk m H m' H') : ∀ {d : D} {v : V}, RD K m H d v → RD K m' H' d v
  | _, _, .non => .non
  | _, _, .bl b => .bl b
  | _, _, .int i => .int i
  | _, _, .str x => .str x
  | _, _, .tup h r => .tup (s.sqT h) (RDs.wk s r)
  | _, _, .lst h n r => .lst (s.keep _ _ n h).1 (s.keep _ _ n h).2 (RDs.wk s r)
  | _, _, .scr h => .scr (s.sqF h)
  | _, _, .ref h => .ref (s.pre _ _ h)
theorem RDs.wk (s : Wk m H m' H') : ∀ {ds : List D} {vs : List V}, RDs K m H ds vs → RDs K m' H' ds vs
  | _, _, .nil => .nil
  | _, _, .cons a b => .cons (RD.wk s a) (RDs.wk s b)
end
theorem RD.mono (s : Stp m H m' H') {d : D} {v : V} (r : RD K m H d v) : RD K m' H' d v := r.wk s.toWk
theorem RDs.mono (s : Stp m H m' H') {d : List D} {v : List V} (r : RDs K m H d v) : RDs K m' H' d v := r.wk s.toWk
theorem RDs.length : ∀ {ds : List D} {vs : List V}, RDs K m H ds vs → ds.length = vs.length
  | _, _, .nil => rfl
  | _, _, .cons _ b => congrArg (· + 1) b.length
theorem RDs.get : ∀ {ds : List D} {vs : List V}, RDs K m H ds vs → ∀ {i : Nat} {d : D}, ds[i]? = some d → ∃ v, vs[i]? = some v ∧ RD K m H d v
  | _, _, .nil, i, d, e => by simp at e
  | _, _, .cons a b, 0, d, e => by
    simp at e
    subst e
    exact ⟨_, rfl, a⟩
  | _, _, .cons a b, i + 1, d, e => by
    obtain ⟨v, h1, h2⟩ := b.get (i := i) (d := d) (by simpa using e)
    exact ⟨v, by simpa using h1, h2⟩
theorem RDs.append : ∀ {ds es : List D} {vs us : List V}, RDs K m H ds vs → RDs K m H es us → RDs K m H (ds ++ es) (vs ++ us)
  | _, _, _, _, .nil, r => r
  | _, _, _, _, .cons a b, r => .cons a (b.append r)
theorem RDs.take : ∀ {ds : List D} {vs : List V} (n : Nat), RDs K m H ds vs → RDs K m H (ds.take n) (vs.take n)
  | _, _, 0, _ => .nil
  | _, _, _ + 1, .nil => .nil
  | _, _, n + 1, .cons a b => .cons a (b.take n)
theorem RDs.drop : ∀ {ds : List D} {vs : List V} (n : Nat), RDs K m H ds vs → RDs K m H (ds.drop n) (vs.drop n)
  | _, _, 0, r => r
  | _, _, _ + 1, .nil => .nil
  | _, _, n + 1, .cons a b => b.drop n
theorem RDs.set {d : D} {v : V} (r : RD K m H d v) : ∀ {ds : List D} {vs : List V} (n : Nat), RDs K m H ds vs → RDs K m H (ds.set n d) (vs.set n v)
  | _, _, _, .nil => .nil
  | _, _, 0, .cons a b => .cons r b
  | _, _, n + 1, .cons a b => .cons a (b.set r n)
theorem RDs.rev {ds : List D} {vs : List V} (r : RDs K m H ds vs) : RDs K m H ds.reverse vs.reverse := by
  have go : ∀ {ds : List D} {vs : List V}, RDs K m H ds vs → ∀ {es : List D} {us : List V}, RDs K m H es us → RDs K m H (ds.reverseAux es) (vs.reverseAux us) := by
    intro ds vs r
    induction ds generalizing vs with
    | nil => cases r; intro es us q; exact q
    | cons d ds ih =>
      cases r with
      | cons a b => intro es us q; exact ih b (.cons a q)
  exact go r .nil
theorem RDs.rep {ds : List D} {vs : List V} (r : RDs K m H ds vs) : ∀ n : Nat, RDs K m H (List.replicate n ds).flatten (List.replicate n vs).flatten
  | 0 => .nil
  | n + 1 => by
    rw [List.replicate_succ, List.replicate_succ, List.flatten_cons, List.flatten_cons]
    exact r.append (r.rep n)
mutual
theorem RD.dp : ∀ {d : D} {v : V}, RD K m H d v → d.cl = true → Dp K H v d.py
  | _, _, .non, _ => .non
  | _, _, .bl b, _ => .bl b
  | _, _, .int i, _ => .int i
  | _, _, .str x, _ => .str x
  | _, _, .tup h r, c => .tup h (RDs.dp r (by simpa only [D.cl] using c))
  | _, _, .lst h n r, c => .lst (.of h) (RDs.dp r (by simpa only [D.cl] using c))
  | _, _, .scr h, c => by simp [D.cl] at c
  | _, _, .ref h, c => by simp [D.cl] at c
theorem RDs.dp : ∀ {ds : List D} {vs : List V}, RDs K m H ds vs → D.cls ds = true → DpAll K H vs (D.pys ds)
  | _, _, .nil, _ => .nil
  | _, _, .cons a b, c => by
    simp only [D.cls, Bool.and_eq_true] at c
    exact .cons (RD.dp a c.1) (RDs.dp b c.2)
end
theorem RE.wk (r : RE K m H σ e) (s : Wk m H m' H') : RE K m' H' σ e := ⟨r.len, fun i d q => let ⟨v, h1, h2⟩ := r.at_ i d q; ⟨v, h1, h2.wk s⟩⟩
theorem RE.mono (r : RE K m H σ e) (s : Stp m H m' H') : RE K m' H' σ e := r.wk s.toWk
/-- objects that hold still, the heap larger -/
theorem RH.same (r : RH K m H h) (s : Same H H') : RH K m H' h := ⟨r.len, r.nd, fun b hb => let ⟨n, o, e⟩ := r.zs b hb; ⟨n, o, s _ _ e⟩, fun n a o e1 e2 => by
  have q := r.ob n a o e1 e2
  cases o with
  | lst ds => obtain ⟨vs, e, z⟩ := q; exact ⟨vs, s _ _ e, z.mono (.same s)⟩
  | dic _ => exact q⟩
theorem RH.get (r : RH K m H h) {n : Nat} {a : Addr} {ds : List D} (e : m.m[n]? = some a) (q : h[n]? = some (.lst ds)) : ∃ vs, H a = some (.lst vs) ∧ RDs K m H ds vs := r.ob n a _ e q
theorem RH.some_of (r : RH K m H h) {n : Nat} {a : Addr} (e : m.m[n]? = some a) : ∃ o, H a = some o := by
  have l : n < h.length := by rw [← r.len]; exact (List.getElem?_eq_some_iff.mp e).1
  have q := r.ob n a _ e (List.getElem?_eq_getElem l)
  cases z : h[n] with
  | lst ds => rw [z] at q; obtain ⟨vs, e, _⟩ := q; exact ⟨_, e⟩
  | dic kvs => rw [z] at q; exact q.elim
theorem RH.mem (r : RH K m H h) {a : Addr} (e : a ∈ m.m) : ∃ o, H a = some o := by
  obtain ⟨n, hn⟩ := List.mem_iff_getElem?.mp e
  exact r.some_of hn
theorem RH.notin (r : RH K m H h) {a : Addr} (e : H a = none) : m.out a := by
  refine ⟨fun z => ?_, fun z => ?_⟩
  · obtain ⟨o, q⟩ := r.mem z
    rw [e] at q
    cases q
  · obtain ⟨_, o, q⟩ := r.zs a z
    rw [e] at q
    cases q
/-- a new object outside the store -/
theorem RH.new {a : Addr} {o : HO} (r : RH K m H h) (e : H a = none) : RH K m (upd H a o) h := r.same fun b u q => by rw [upd_ne (ne_of_none q e)]; exact q
theorem Stp.new {a : Addr} {o : HO} (e : H a = none) : Stp m H m (upd H a o) := .same fun b u q => by rw [upd_ne (ne_of_none q e)]; exact q
theorem notin_push {a b : Addr} {o : HO} (e : H a = none) (n : b ∉ m.m) (q : H b = some o) : b ∉ (m.push a).m := fun z => by
  rcases List.mem_append.mp z with z | z
  · exact n z
  · rw [List.mem_singleton] at z; subst z; rw [e] at q; cases q
/-- a new list becomes an object of the store -/
theorem Stp.push {a : Addr} {o : HO} (e : H a = none) : Stp m H (m.push a) (upd H a o) where
  keep := fun b u n q => ⟨by rw [upd_ne (ne_of_none q e)]; exact q, notin_push e n.1 q, n.2⟩
  tups := fun b xs q => by rw [upd_ne (ne_of_none q e)]; exact q
  frzs := fun b ob u q => by rw [upd_ne (ne_of_none q e)]; exact q
  pre := fun n b q => by
    show (m.m ++ [a])[n]? = some b
    rw [List.getElem?_append_left (List.getElem?_eq_some_iff.mp q).1]
    exact q
  there := fun b u q => ⟨u, by rw [upd_ne (ne_of_none q e)]; exact q⟩
  zz := rfl
  zk := fun b u _ n q => ⟨by rw [upd_ne (ne_of_none q e)]; exact q, notin_push e n q⟩
theorem RH.push {a : Addr} {ds : List D} {vs : List V} (r : RH K m H h) (e : H a = none) (q : RDs K m H ds vs) : RH K (m.push a) (upd H a (.lst vs)) (h ++ [.lst ds]) := by
  have ha := r.notin e
  have st : Stp m H (m.push a) (upd H a (.lst vs)) := .push e
  refine ⟨by show (m.m ++ [a]).length = _; rw [List.length_append, List.length_append, r.len] <;> rfl, ?_, fun b hb => ?_, fun n b o e1 e2 => ?_⟩
  · show (m.m ++ [a]).Nodup
    rw [List.nodup_append]
    exact ⟨r.nd, by simp, fun x hx y hy z => by rw [List.mem_singleton] at hy; subst hy; subst z; exact ha.1 hx⟩
  · obtain ⟨n, o, q⟩ := r.zs b hb
    exact ⟨notin_push e n q, o, by rw [upd_ne (ne_of_none q e)]; exact q⟩
  · have e1 : (m.m ++ [a])[n]? = some b := e1
    by_cases hn : n < h.length
    · rw [List.getElem?_append_left hn] at e2
      rw [List.getElem?_append_left (by rw [r.len]; exact hn)] at e1
      have z := r.ob n b o e1 e2
      cases o with
      | lst xs =>
        obtain ⟨us, z1, z2⟩ := z
        exact ⟨us, by rw [upd_ne (ne_of_none z1 e)]; exact z1, z2.mono st⟩
      | dic _ => exact z
    · have l2 : n < (h ++ [AO.lst ds]).length := (List.getElem?_eq_some_iff.mp e2).1
      rw [List.length_append] at l2
      have hn2 : n = h.length := by simp at l2; omega
      subst hn2
      rw [List.getElem?_append_right (Nat.le_refl _), Nat.sub_self] at e2
      rw [← r.len, List.getElem?_append_right (Nat.le_refl _), Nat.sub_self] at e1
      simp at e1 e2
      subst e1 e2
      exact ⟨vs, upd_same, q.mono st⟩
/-- an object of the store is written -/
theorem Stp.write {n : Nat} {a : Addr} {xs ys : List V} (r : RH K m H h) (e : m.m[n]? = some a) (ha : H a = some (.lst xs)) : Stp m H m (upd H a (.lst ys)) where
  keep := fun b u nb q => ⟨by rw [upd_ne (fun z => nb.1 (by rw [z]; exact List.mem_of_getElem? e))]; exact q, nb⟩
  tups := fun b us q => by rw [upd_ne (fun z => by rw [z, ha] at q; cases q)]; exact q
  frzs := fun b ob u q => by rw [upd_ne (fun z => by rw [z, ha] at q; cases q)]; exact q
  pre := fun _ _ q => q
  there := fun b u q => by
    by_cases z : b = a
    · subst z; exact ⟨_, upd_same⟩
    · exact ⟨u, by rw [upd_ne z]; exact q⟩
  zz := rfl
  zk := fun b u _ nb q => ⟨by rw [upd_ne (fun z => nb (by rw [z]; exact List.mem_of_getElem? e))]; exact q, nb⟩
theorem RH.write {n : Nat} {a : Addr} {xs ys : List V} {ds : List D} (r : RH K m H h) (e : m.m[n]? = some a) (ha : H a = some (.lst xs)) (q : RDs K m H ds ys) : RH K m (upd H a (.lst ys)) (h.set n (.lst ds)) := by
  have st : Stp m H m (upd H a (.lst ys)) := .write r e ha
  refine ⟨by rw [List.length_set]; exact r.len, r.nd, fun b hb => ?_, fun j b o e1 e2 => ?_⟩
  · obtain ⟨nb, o, q⟩ := r.zs b hb
    exact ⟨nb, o, (st.zk b o hb nb q).1⟩
  by_cases hj : j = n
  · subst hj
    rw [e] at e1; cases e1
    have l : j < h.length := by rw [← r.len]; exact (List.getElem?_eq_some_iff.mp e).1
    rw [List.getElem?_set_self l] at e2
    cases e2
    exact ⟨ys, upd_same, q.mono st⟩
  · rw [List.getElem?_set_ne (Ne.symm hj)] at e2
    have z := r.ob j b o e1 e2
    have nb : b ≠ a := fun w => by
      subst w
      exact hj ((List.getElem?_inj (List.getElem?_eq_some_iff.mp e1).1 r.nd).mp (e1.trans e.symm))
    cases o with
    | lst xs => obtain ⟨us, z1, z2⟩ := z; exact ⟨us, by rw [upd_ne nb]; exact z1, z2.mono st⟩
    | dic _ => exact z
/-! ### a list under way: its place is reserved -/
theorem Wk.enter {a : Addr} {o : HO} (e : H a = none) : Wk m H (m.res a) (upd H a o) where
  keep := fun b u n q => ⟨by rw [upd_ne (ne_of_none q e)]; exact q, n.1, fun z => by
    rcases List.mem_cons.mp z with z | z
    · rw [z, e] at q; cases q
    · exact n.2 z⟩
  tups := fun b xs q => by rw [upd_ne (ne_of_none q e)]; exact q
  frzs := fun b ob u q => by rw [upd_ne (ne_of_none q e)]; exact q
  pre := fun _ _ q => q
theorem RH.enter {a : Addr} {o : HO} (r : RH K m H h) (e : H a = none) : RH K (m.res a) (upd H a o) h := by
  have w : Wk m H (m.res a) (upd H a o) := .enter e
  refine ⟨r.len, r.nd, fun b hb => ?_, fun n b ob e1 e2 => ?_⟩
  · rcases List.mem_cons.mp hb with z | z
    · subst z; exact ⟨(r.notin e).1, o, upd_same⟩
    · obtain ⟨nb, u, q⟩ := r.zs b z
      exact ⟨nb, u, by rw [upd_ne (ne_of_none q e)]; exact q⟩
  · have q := r.ob n b ob e1 e2
    cases ob with
    | lst ds => obtain ⟨vs, z1, z2⟩ := q; exact ⟨vs, by rw [upd_ne (ne_of_none z1 e)]; exact z1, z2.wk w⟩
    | dic _ => exact q
/-- the reserved list grows: nothing else knows it -/
theorem Wk.grow {a : Addr} {xs ys : List V} (hz : a ∈ m.z) (ha : H a = some (.lst xs)) : Wk m H m (upd H a (.lst ys)) where
  keep := fun b u n q => ⟨by rw [upd_ne (fun z => n.2 (by rw [z]; exact hz))]; exact q, n⟩
  tups := fun b us q => by rw [upd_ne (fun z => by rw [z, ha] at q; cases q)]; exact q
  frzs := fun b ob u q => by rw [upd_ne (fun z => by rw [z, ha] at q; cases q)]; exact q
  pre := fun _ _ q => q
theorem RH.grow {a : Addr} {xs ys : List V} (r : RH K m H h) (hz : a ∈ m.z) (ha : H a = some (.lst xs)) : RH K m (upd H a (.lst ys)) h := by
  have w : Wk m H m (upd H a (.lst ys)) := .grow hz ha
  have nm := (r.zs a hz).1
  refine ⟨r.len, r.nd, fun b hb => ?_, fun n b ob e1 e2 => ?_⟩
  · obtain ⟨nb, u, q⟩ := r.zs b hb
    by_cases z : b = a
    · subst z; exact ⟨nb, _, upd_same⟩
    · exact ⟨nb, u, by rw [upd_ne z]; exact q⟩
  · have q := r.ob n b ob e1 e2
    have nb : b ≠ a := fun z => nm (by rw [← z]; exact List.mem_of_getElem? e1)
    cases ob with
    | lst ds => obtain ⟨vs, z1, z2⟩ := q; exact ⟨vs, by rw [upd_ne nb]; exact z1, z2.wk w⟩
    | dic _ => exact q
/-- it is done: its place is an ordinary one -/
theorem Wk.leave {a : Addr} : Wk (m.res a) H m H where
  keep := fun b u n q => ⟨q, n.1, fun z => n.2 (List.mem_cons_of_mem _ z)⟩
  tups := fun _ _ q => q
  frzs := fun _ _ _ q => q
  pre := fun _ _ q => q
theorem RH.leave {a : Addr} (r : RH K (m.res a) H h) : RH K m H h := ⟨r.len, r.nd, fun b hb => r.zs b (List.mem_cons_of_mem _ hb), fun n b ob e1 e2 => by
  have q := r.ob n b ob e1 e2
  cases ob with
  | lst ds => obtain ⟨vs, z1, z2⟩ := q; exact ⟨vs, z1, z2.wk .leave⟩
  | dic _ => exact q⟩
end
end Ev
/-! Ev part D: operators, built-ins and methods by values. -/
namespace Ev
open PySem PySem.Spec PyProof.Rows L2

/-- what a body's context has -/
structure CG (X : Cx) : Prop where
  calm : X.calm = true
  grd : X.A.guards = some []
  nd : X.N.Nodup
  room : Room 100 X.A
  seer : X.base.NoSeer
  tree : X.prog.given.tree = none
  stk : ∃ e l, X.stack = e :: l ∧ e.scope.isGenerator = false ∧ e.scope.isCoroutine = false ∧ e.builtins = builtinsNs ∧ e.globals = mainGlobals
section
variable {X : Cx} {pins : List (Addr × Obj)} {σ : L2.St} {H : Hp} {s : Shared}
theorem CG.pyl (g : CG X) (I : Inv X pins σ H s) : PylongRoom (model X.prog X.w) X.A s := by
  obtain ⟨e, l, h1, h2, h3, h4, h5⟩ := g.stk
  have hd : X.A.depth + Builtin.pylongFrames < recursionLimit := by
    have h := g.room.dp
    have e : Builtin.pylongFrames ≤ 305 := by decide
    omega
  exact PylongRoom.of I.nolimit hd (SeerAt.of (g.seer.keeps I.bk) g.tree (by rw [I.ok.frames, h1]) h2 h3 h4 h5)
theorem CG.u64 (g : CG X) : X.A.units + 64 < cLine := g.room.units
theorem CG.u65 (g : CG X) : X.A.units + 65 < cLine := by have := g.room.un; omega
theorem op_fdivA (g : CG X) : OpR X (binaryOp .FloorDiv) (rI (fun _ j => j ≠ 0) fun i j => .int (i.fdiv j)) := by
  intro pins s σ H x y v u Q I rx ry h
  obtain ⟨i, j, rfl, rfl, hj, q⟩ := h
  obtain ⟨t, rfl⟩ := rx
  obtain ⟨t', rfl⟩ := ry
  exact floordiv_int hj ⟨.int _, H, I.tok _, ⟨_, rfl⟩, q⟩ (.inr (g.pyl I))
theorem op_mulA : OpR X (binaryOp .Mult) (rI (fun i j => mulOk i j = true) fun i j => .int (i * j)) := opI fun i j _ _ _ _ _ hc q => by
  refine mul_int q ?_
  have h : i.natAbs.log2 + j.natAbs.log2 < 100000000 := of_decide_eq_true hc
  have b : ∀ x : Int, Builtin.Int.intBits x ≤ x.natAbs.log2 + 1 := fun x => by
    unfold Builtin.Int.intBits
    split <;> omega
  have h1 := b i
  have h2 := b j
  have e : bitsLine = 134217728 := by decide
  unfold IntMulOk
  intro z
  rw [Bool.and_eq_true] at z
  have z2 := z.2
  unfold Builtin.Int.intTooBig at z2
  have z3 := of_decide_eq_true z2
  rw [e] at z3
  omega
theorem call_divmodA (g : CG X) : CallR X (.builtin "divmod") (fun xs H Q => ∃ i j, xs = [.int i, .int j] ∧ j ≠ 0 ∧ ∀ p, H p = none → Q (.ref p) (upd H p (.tup [.int (i.fdiv j), .int (i.fmod j)]))) := by
  intro pins s σ H xs us Q I r h
  obtain ⟨i, j, rfl, hj, q⟩ := h
  obtain ⟨t, u, rfl⟩ := Vals.int2 r
  refine divmod_int hj ?_ (.inr (g.pyl I))
  refine ⟨.ref s.heap.objs.size, _, I.laid (a := s.heap.objs.size) (o := .tup [.int (i.fdiv j), .int (i.fmod j)]) (t' := s.toks + 1 + 1) (fun b ob q => Heap.get?_push_of_some _ q) (Nat.le_refl _) ?_, rfl, q _ (I.hok.fresh (Nat.le_refl _))⟩
  exact ⟨by show 2 ≤ sizeLine; decide, [.int (i.fdiv j) s.toks, .int (i.fmod j) (s.toks + 1)], .cons ⟨_, rfl⟩ (.cons ⟨_, rfl⟩ .nil), IsTup.new s.heap _⟩
end
/-! ### operators -/
def BOp.py : BOp → Operator
  | .add => .Add | .sub => .Sub | .mul => .Mult | .fdiv => .FloorDiv | .mod => .Mod | .pow => .Pow
def COp.py : COp → CmpOp
  | .eq => .Eq | .ne => .NotEq | .lt => .Lt | .le => .LtE | .gt => .Gt | .ge => .GtE | .is => .Is | .isn => .IsNot | .in_ => .In | .nin => .NotIn
def PostR (K : PySem.W.Frag) (m : Mz) (H : Hp) : Rz → VK → Prop
  | .val d, Q => ∀ v H', Same H H' → RD K m H' d v → Q v H'
  | .new ds, Q => ∀ p vs, H p = none → RDs K m H ds vs → Q (.ref p) (upd H p (.lst vs))
section
variable {K : PySem.W.Frag} {m m' : Mz} {H H' : Hp} {h h' : AH} {d : D} {v : V} {xs : List D}
theorem most_le {n : Nat} (e : n ≤ most) : n ≤ sizeLine := Nat.le_trans e (by decide)
theorem most_lt {n : Nat} (e : n ≤ most) : n < sizeLine := Nat.lt_of_le_of_lt e (by decide)
theorem post_of {r : Rz} {p : Bool} {Q : VK} (rh : RH K m H h) (e : r.fin p h = some (d, h')) (c : ∀ v H' m', Stp m H m' H' → RH K m' H' h' → RD K m' H' d v → Q v H') : PostR K m H r Q := by
  cases r with
  | val x =>
    cases p with
    | true => cases e
    | false =>
      cases e
      exact fun v H' s r => c v H' m (.same s) (rh.same s) r
  | new ds =>
    intro q vs hq r
    cases p with
    | true =>
      cases e
      exact c _ _ (m.push q) (.push hq) (rh.push hq r) (.ref (by show (m.m ++ [q])[h.length]? = some q; rw [← rh.len, List.getElem?_append_right (Nat.le_refl _), Nat.sub_self] <;> rfl))
    | false =>
      cases e
      exact c _ _ m (.new hq) (rh.new hq) (.lst upd_same (rh.notin hq) (r.mono (.new hq)))
theorem RDs.ints : ∀ ns : List Int, RDs K m H (ns.map D.int) (ns.map V.int)
  | [] => .nil
  | n :: ns => .cons (.int n) (RDs.ints ns)
theorem lst_at (rh : RH K m H h) (rd : RD K m H d v) (e : lstOf h d = some xs) : ∃ a vs, v = .ref a ∧ H a = some (.lst vs) ∧ RDs K m H xs vs := by
  cases rd with
  | lst h1 n r => cases e; exact ⟨_, _, rfl, h1, r⟩
  | @ref n a h1 =>
    unfold lstOf at e
    simp only at e
    split at e
    · cases e
      rename_i q
      obtain ⟨vs, e1, r⟩ := rh.get h1 q
      exact ⟨a, vs, rfl, e1, r⟩
    · cases e
  | _ => cases e
theorem seq_at (rh : RH K m H h) (rd : RD K m H d v) (e : seqOf h d = some xs) : ∃ a vs, v = .ref a ∧ (SqL K H a vs ∨ SqT K H a vs) ∧ RDs K m H xs vs := by
  cases rd with
  | tup h1 r => cases e; exact ⟨_, _, rfl, .inr h1, r⟩
  | scr h1 => cases e; exact ⟨_, _, rfl, .inl h1.sq, RDs.ints _⟩
  | lst h1 n r => cases e; exact ⟨_, _, rfl, .inl (.of h1), r⟩
  | ref h1 =>
    obtain ⟨a, vs, e1, e2, e3⟩ := lst_at (d := .ref _) rh (.ref h1) e
    exact ⟨a, vs, e1, .inl (.of e2), e3⟩
  | _ => cases e
theorem view_dp (rh : RH K m H h) (rd : RD K m H d v) (c : (view h d).ok = true) : Dp K H v (view h d).py := by
  have c1 : (view h d).cl = true := (Bool.and_eq_true_iff.mp c).1
  cases rd with
  | @ref n a h1 =>
    cases q : h[n]? with
    | none => simp [view, q, D.cl] at c1
    | some o =>
      cases o with
      | dic kvs => simp [view, q, D.cl] at c1
      | lst xs =>
        simp only [view, q] at c1 ⊢
        obtain ⟨vs, e1, r⟩ := rh.get h1 q
        exact .lst (.of e1) (r.dp (by simpa only [D.cl] using c1))
  | non => exact .non
  | bl b => exact .bl b
  | int i => exact .int i
  | str i => exact .str i
  | tup h1 r => exact (RD.tup h1 r : RD K m H _ _).dp c1
  | lst h1 n r => exact (RD.lst h1 n r : RD K m H _ _).dp c1
  | scr h1 => simp [view, D.cl] at c1
end
section
variable {X : Cx}
def rDB (K : PySem.W.Frag) (op : BOp) : R2 := fun x y H Q => ∃ m h a b r, RH K m H h ∧ RD K m H a x ∧ RD K m H b y ∧ dBin h op a b = some r ∧ PostR K m H r Q
theorem op_repL : OpR X (binaryOp .Mult) (fun x y H Q => ∃ l k xs, x = .ref l ∧ y = .int k ∧ H l = some (.lst xs) ∧ 0 ≤ k ∧ k ≤ 1000 ∧ xs.length ≤ 1000 ∧ ∀ p, H p = none → Q (.ref p) (upd H p (.lst (List.replicate k.toNat xs).flatten))) := by
  intro pins s σ H x y v u Q I rx ry h
  obtain ⟨l, k, xs, rfl, rfl, hl, k0, k1, hx, q⟩ := h
  refine op_rep pins s σ H _ _ v u Q I rx ry ⟨l, k, xs, rfl, rfl, hl, by omega, by omega, ?_, q⟩
  have : xs.length * k.toNat ≤ 1000 * 1000 := Nat.mul_le_mul hx (by omega)
  exact Nat.le_trans this (by decide)
theorem op_bin (g : CG X) (op : BOp) : OpR X (binaryOp op.py) (rDB X.K op) := by
  intro pins s σ H x y v u Q I rx ry hh
  obtain ⟨m, h, a, b, r, rh, ra, rb, e, P⟩ := hh
  cases op with
  | add =>
    unfold dBin at e
    simp only at e
    split at e
    · rename_i i j
      cases e; cases ra; cases rb
      exact op_add pins s σ H _ _ v u Q I rx ry ⟨_, _, rfl, rfl, P _ _ (Same.refl H) (.int _)⟩
    · rename_i i j
      split at e
      · rename_i hl
        cases e; cases ra; cases rb
        exact op_add_str pins s σ H _ _ v u Q I rx ry ⟨_, _, rfl, rfl, most_le hl, P _ _ (Same.refl H) (.str _)⟩
      · cases e
    · rename_i xs ys
      split at e
      · rename_i hl
        cases e
        cases ra with
        | tup h1 r1 =>
          cases rb with
          | tup h2 r2 =>
            have l1 := r1.length
            have l2 := r2.length
            refine op_catA pins s σ H _ _ v u Q I rx ry ⟨_, _, _, _, rfl, rfl, h1, h2, most_le (by omega), fun e => ?_, fun e1 e2 => ?_, fun e1 e2 p hp => ?_⟩
            · subst e
              cases r1
              exact P _ _ (Same.refl H) (.tup h2 r2)
            · subst e2
              cases r2
              exact P _ _ (Same.refl H) (.tup h1 (by rw [List.append_nil]; exact r1))
            · exact P _ _ (fun b o e => by rw [upd_ne (ne_of_none e hp)]; exact e) (.tup (.of upd_same) ((r1.append r2).mono (.new hp)))
      · cases e
    · split at e
      · rename_i xs ys e1 e2
        split at e
        · rename_i hl
          cases e
          obtain ⟨p1, vs1, rfl, q1, r1⟩ := lst_at rh ra e1
          obtain ⟨p2, vs2, rfl, q2, r2⟩ := lst_at rh rb e2
          have l1 := r1.length
          have l2 := r2.length
          exact op_cat pins s σ H _ _ v u Q I rx ry ⟨p1, p2, vs1, vs2, rfl, rfl, q1, q2, most_le (by omega), fun p hp => P p _ hp (r1.append r2)⟩
        · cases e
      · cases e
  | sub =>
    unfold dBin at e
    simp only at e
    split at e
    · cases e; cases ra; cases rb
      exact op_sub pins s σ H _ _ v u Q I rx ry ⟨_, _, rfl, rfl, P _ _ (Same.refl H) (.int _)⟩
    · cases e
  | mul =>
    unfold dBin at e
    simp only at e
    split at e
    · split at e
      · rename_i hl
        cases e; cases ra; cases rb
        exact op_mulA pins s σ H _ _ v u Q I rx ry ⟨_, _, rfl, rfl, hl, P _ _ (Same.refl H) (.int _)⟩
      · cases e
    · split at e
      · rename_i hl
        obtain ⟨l1, l2, l3, l4⟩ := hl
        cases e
        cases rb
        cases ra with
        | tup h1 r1 =>
          have l := r1.length
          refine op_repT pins s σ H _ _ v u Q I rx ry ⟨_, _, _, rfl, rfl, h1, fun z => l4 (by subst z; cases r1; rfl), l2, l3, by omega, fun p hp => ?_⟩
          exact P _ _ (fun b o e => by rw [upd_ne (ne_of_none e hp)]; exact e) (.tup (.of upd_same) ((r1.rep _).mono (.new hp)))
      · cases e
    · split at e
      · rename_i hl
        obtain ⟨l1, l2, l3⟩ := hl
        cases e
        cases rb
        cases ra with
        | lst h1 n r1 =>
          have l := r1.length
          exact op_repL pins s σ H _ _ v u Q I rx ry ⟨_, _, _, rfl, rfl, h1, l2, l3, by omega, fun p hp => P p _ hp (r1.rep _)⟩
      · cases e
    · cases e
  | fdiv =>
    unfold dBin at e
    simp only at e
    split at e
    · split at e
      · rename_i hl
        cases e; cases ra; cases rb
        exact op_fdivA g pins s σ H _ _ v u Q I rx ry ⟨_, _, rfl, rfl, hl, P _ _ (Same.refl H) (.int _)⟩
      · cases e
    · cases e
  | mod =>
    unfold dBin at e
    simp only at e
    split at e
    · split at e
      · rename_i hl
        cases e; cases ra; cases rb
        exact op_modN pins s σ H _ _ v u Q I rx ry ⟨_, _, rfl, rfl, hl, P _ _ (Same.refl H) (.int _)⟩
      · cases e
    · cases e
  | pow =>
    unfold dBin at e
    simp only at e
    split at e
    · split at e
      · rename_i hl
        cases e; cases ra; cases rb
        exact op_pow pins s σ H _ _ v u Q I rx ry ⟨_, _, rfl, rfl, hl, P _ _ (Same.refl H) (.int _)⟩
      · cases e
    · cases e
def rDC (K : PySem.W.Frag) (op : COp) : R2 := fun x y H Q => ∃ m h a b k, RH K m H h ∧ RD K m H a x ∧ RD K m H b y ∧ dCmp h op a b = some k ∧ Q (.bl k) H
theorem op_inT (hu : X.A.units + 65 < cLine) : OpR X (compareOp .In) (fun x y H Q => ∃ d ds, Dp X.K H x d ∧ Dp X.K H y (.tuple ds) ∧ SeqAt.shaped d = true ∧ SeqAt.shaped (.tuple ds) = true ∧ Q (.bl (ds.any fun z => PyData.eqv z d)) H) := by
  intro pins s σ H x y v u Q I rx ry h
  obtain ⟨d, ds, hd, he, sd, se, q⟩ := h
  obtain ⟨as, r1⟩ := Dp.reads I d x v hd rx
  obtain ⟨bs, r2⟩ := Dp.reads I (.tuple ds) y u he ry
  exact SeqAt.in_tuple_reads r2 r1 (SeqAt.canLay_of_shaped se) (SeqAt.canLay_of_shaped sd) (room_in_shaped sd hu) ⟨.bl _, H, I, rfl, q⟩
theorem op_notInT (hu : X.A.units + 65 < cLine) : OpR X (compareOp .NotIn) (fun x y H Q => ∃ d ds, Dp X.K H x d ∧ Dp X.K H y (.tuple ds) ∧ SeqAt.shaped d = true ∧ SeqAt.shaped (.tuple ds) = true ∧ Q (.bl (!ds.any fun z => PyData.eqv z d)) H) := by
  intro pins s σ H x y v u Q I rx ry h
  obtain ⟨d, ds, hd, he, sd, se, q⟩ := h
  obtain ⟨as, r1⟩ := Dp.reads I d x v hd rx
  obtain ⟨bs, r2⟩ := Dp.reads I (.tuple ds) y u he ry
  exact SeqAt.notIn_tuple_reads r2 r1 (SeqAt.canLay_of_shaped se) (SeqAt.canLay_of_shaped sd) (room_in_shaped sd hu) ⟨.bl _, H, I, rfl, q⟩
theorem ok_sh {d : D} (h : d.ok = true) : SeqAt.shaped d.py = true := (Bool.and_eq_true_iff.mp h).2
theorem ok_cl {d : D} (h : d.ok = true) : d.cl = true := (Bool.and_eq_true_iff.mp h).1
theorem op_cmp (g : CG X) (op : COp) : OpR X (compareOp op.py) (rDC X.K op) := by
  intro pins s σ H x y v u Q I rx ry hh
  obtain ⟨m, h, a, b, k, rh, ra, rb, e, P⟩ := hh
  cases op with
  | eq =>
    unfold dCmp at e
    simp only at e
    split at e
    · rename_i p q
      cases e
      cases ra
      cases rb
      refine op_eq pins s σ H _ _ v u Q I rx ry ⟨rfl, ?_⟩
      rw [show decide (V.str p = V.str q) = decide (p = q) by simp]
      exact P
    · split at e
      · rename_i c
        cases e
        rw [Bool.and_eq_true] at c
        exact op_eqD g.u64 pins s σ H _ _ v u Q I rx ry ⟨_, _, view_dp rh ra c.1, view_dp rh rb c.2, ok_sh c.1, ok_sh c.2, P⟩
      · cases e
  | ne =>
    unfold dCmp at e
    simp only at e
    split at e
    · rename_i p q
      cases e
      cases ra
      cases rb
      refine op_ne pins s σ H _ _ v u Q I rx ry ⟨rfl, ?_⟩
      rw [show decide (V.str p = V.str q) = decide (p = q) by simp]
      exact P
    · split at e
      · rename_i c
        cases e
        rw [Bool.and_eq_true] at c
        exact op_neD g.u64 pins s σ H _ _ v u Q I rx ry ⟨_, _, view_dp rh ra c.1, view_dp rh rb c.2, ok_sh c.1, ok_sh c.2, P⟩
      · cases e
  | lt =>
    unfold dCmp at e
    simp only at e
    split at e
    · cases e; cases ra; cases rb
      exact op_lt pins s σ H _ _ v u Q I rx ry ⟨_, _, rfl, rfl, P⟩
    · cases e
  | le =>
    unfold dCmp at e
    simp only at e
    split at e
    · cases e; cases ra; cases rb
      exact op_le pins s σ H _ _ v u Q I rx ry ⟨_, _, rfl, rfl, P⟩
    · cases e
  | gt =>
    unfold dCmp at e
    simp only at e
    split at e
    · cases e; cases ra; cases rb
      exact op_gt pins s σ H _ _ v u Q I rx ry ⟨_, _, rfl, rfl, P⟩
    · cases e
  | ge =>
    unfold dCmp at e
    simp only at e
    split at e
    · cases e; cases ra; cases rb
      exact op_ge pins s σ H _ _ v u Q I rx ry ⟨_, _, rfl, rfl, P⟩
    · cases e
  | is =>
    unfold dCmp at e
    simp only at e
    split at e
    · cases e
      cases rb
      refine op_isN pins s σ H _ _ v u Q I rx ry ⟨rfl, ?_⟩
      cases ra <;> exact P
    · split at e
      · cases e; cases ra; cases rb
        exact op_isBl pins s σ H _ _ v u Q I rx ry ⟨_, _, rfl, rfl, P⟩
      · cases e
    · cases e
  | isn =>
    unfold dCmp at e
    simp only at e
    split at e
    · cases e
      cases rb
      refine op_notN pins s σ H _ _ v u Q I rx ry ⟨rfl, ?_⟩
      cases ra <;> exact P
    · split at e
      · cases e; cases ra; cases rb
        exact op_notBl pins s σ H _ _ v u Q I rx ry ⟨_, _, rfl, rfl, P⟩
      · cases e
    · cases e
  | in_ =>
    unfold dCmp at e
    simp only at e
    split at e
    · rename_i ys q
      split at e
      · rename_i c
        cases e
        rw [Bool.and_eq_true] at c
        have c2 := c.2
        rw [← q] at c2
        have z := view_dp rh rb c2
        rw [q] at z
        exact op_inD g.u65 pins s σ H _ _ v u Q I rx ry ⟨_, _, ra.dp (ok_cl c.1), z, ok_sh c.1, ok_sh c.2, P⟩
      · cases e
    · rename_i ys q
      split at e
      · rename_i c
        cases e
        rw [Bool.and_eq_true] at c
        have c2 := c.2
        rw [← q] at c2
        have z := view_dp rh rb c2
        rw [q] at z
        exact op_inT g.u65 pins s σ H _ _ v u Q I rx ry ⟨_, _, ra.dp (ok_cl c.1), z, ok_sh c.1, ok_sh c.2, P⟩
      · cases e
    · cases e
  | nin =>
    unfold dCmp at e
    simp only at e
    split at e
    · rename_i ys q
      split at e
      · rename_i c
        cases e
        rw [Bool.and_eq_true] at c
        have c2 := c.2
        rw [← q] at c2
        have z := view_dp rh rb c2
        rw [q] at z
        exact op_notInD g.u65 pins s σ H _ _ v u Q I rx ry ⟨_, _, ra.dp (ok_cl c.1), z, ok_sh c.1, ok_sh c.2, P⟩
      · cases e
    · rename_i ys q
      split at e
      · rename_i c
        cases e
        rw [Bool.and_eq_true] at c
        have c2 := c.2
        rw [← q] at c2
        have z := view_dp rh rb c2
        rw [q] at z
        exact op_notInT g.u65 pins s σ H _ _ v u Q I rx ry ⟨_, _, ra.dp (ok_cl c.1), z, ok_sh c.1, ok_sh c.2, P⟩
      · cases e
    · cases e
/-- subscripts -/
def rDI (K : PySem.W.Frag) : R2 := fun x y H Q => ∃ m h a b d, RH K m H h ∧ RD K m H a x ∧ RD K m H b y ∧ dIx h a b = some d ∧ ∀ v, RD K m H d v → Q v H
theorem at_rd {K : PySem.W.Frag} {m : Mz} {H : Hp} {xs : List D} {vs : List V} {i : Int} {d : D} (r : RDs K m H xs vs) (e : atI xs i = some d) : ∃ v, atI vs i = some v ∧ RD K m H d v := by
  unfold atI at e ⊢
  rw [← r.length]
  cases q : ixN xs.length i with
  | none => rw [q] at e; cases e
  | some j =>
    rw [q] at e
    exact r.get e
theorem ix_D : IxR X (rDI X.K) := by
  intro value slice pins s σ H x y v u Q I rx ry hh hs
  obtain ⟨m, h, a, b, d, rh, ra, rb, e, P⟩ := hh
  unfold dIx at e
  split at e
  · rename_i i
    split at e
    · rename_i xs q
      obtain ⟨p, vs, rfl, qq, r⟩ := seq_at rh ra q
      obtain ⟨w, h1, h2⟩ := at_rd r e
      cases rb
      rcases qq with qq | qq
      · exact ix_list value slice pins s σ H _ _ v u Q I rx ry ⟨_, _, _, _, rfl, rfl, qq, h1, P _ h2⟩ hs
      · exact ix_tup value slice pins s σ H _ _ v u Q I rx ry ⟨_, _, _, _, rfl, rfl, qq, h1, P _ h2⟩ hs
    · cases e
  · cases e
def rDS (K : PySem.W.Frag) : V → Option Int → Option Int → Hp → VK → Prop := fun x lo hi H Q => ∃ m h a d, RH K m H h ∧ RD K m H a x ∧ dCut h a lo hi = some d ∧ ∀ v H', Same H H' → RD K m H' d v → Q v H'
theorem RDs.cut {K : PySem.W.Frag} {m : Mz} {H : Hp} {xs : List D} {vs : List V} (r : RDs K m H xs vs) (lo hi : Option Int) : RDs K m H (cut xs lo hi) (cutV vs lo hi) := by
  unfold Ev.cut cutV
  rw [r.length]
  exact (r.drop _).take _
theorem sl_D : SlR X (rDS X.K) := by
  intro pins s σ H x v vl vu lo hi sl Q I rx hs pl pu hh
  obtain ⟨m, h, a, d, rh, ra, e, P⟩ := hh
  have nw : ∀ {p : Addr} {o : HO}, H p = none → Same H (upd H p o) := fun hp b u z => by rw [upd_ne (ne_of_none z hp)]; exact z
  unfold dCut at e
  split at e
  · cases e
    cases ra with
    | @tup a vs ds h1 r =>
      refine sl_tupA pins s σ H _ v vl vu lo hi sl Q I rx hs pl pu ⟨a, vs, rfl, h1, fun hw => ?_, fun hw p hp => ?_⟩
      · refine P _ _ (Same.refl H) (.tup h1 ?_)
        have z := r.cut lo hi
        unfold cutV at z
        rw [hw.1, hw.2, List.drop_zero, Nat.sub_zero, List.take_length] at z
        exact z
      · exact P _ _ (nw hp) (.tup (.of upd_same) ((r.cut lo hi).mono (.new hp)))
  · cases e
    cases ra with
    | scr h1 =>
      exact sl_list pins s σ H _ v vl vu lo hi sl Q I rx hs pl pu ⟨_, _, rfl, h1.sq, fun p hp => P _ _ (nw hp) (.lst upd_same (rh.notin hp) (((RDs.ints _).cut lo hi).mono (.new hp)))⟩
  · split at e
    · rename_i xs q
      cases e
      obtain ⟨p, vs, rfl, h1, r⟩ := lst_at rh ra q
      exact sl_list pins s σ H _ v vl vu lo hi sl Q I rx hs pl pu ⟨_, _, rfl, .of h1, fun p hp => P _ _ (nw hp) (.lst upd_same (rh.notin hp) ((r.cut lo hi).mono (.new hp)))⟩
    · cases e
/-- truth -/
theorem tru_D {K : PySem.W.Frag} {m : Mz} {H : Hp} {h : AH} {d : D} {v : V} {k : Bool} (rh : RH K m H h) (rd : RD K m H d v) (e : truth h d = some k) : TruV K v H k := by
  have emp : ∀ {xs : List D} {vs : List V}, RDs K m H xs vs → (!xs.isEmpty) = !vs.isEmpty := fun r => by cases r <;> rfl
  cases rd with
  | non => cases e; rfl
  | bl b => cases e; rfl
  | int i => cases e; rfl
  | str x =>
    unfold truth at e
    simp only at e
    split at e
    · rename_i hl
      cases e
      refine ⟨most_le hl, ?_⟩
      rw [Bool.eq_iff_iff]
      simp
    · cases e
  | tup h1 r => cases e; exact .inr (.inl ⟨_, h1, emp r⟩)
  | lst h1 n r => cases e; exact .inl ⟨_, .of h1, emp r⟩
  | scr h1 => cases e
  | @ref n a h1 =>
    unfold truth at e
    simp only [Option.map_eq_some_iff] at e
    obtain ⟨xs, q, rfl⟩ := e
    obtain ⟨p, vs, e1, e2, r⟩ := lst_at (d := .ref n) rh (.ref h1) q
    cases e1
    exact .inl ⟨_, .of e2, emp r⟩
end
end Ev
/-! Ev part E: expressions. -/
namespace Ev
open PySem PySem.Spec PyProof.Rows L2
abbrev St := L2.St

def tE (K : PySem.W.Frag) (f : SE) : TE := fun σ H Q => ∃ m e h d h', RE K m H σ e ∧ RH K m H h ∧ f e h = some (d, h') ∧
  ∀ v H' m', Stp m H m' H' → RH K m' H' h' → RD K m' H' d v → Q v H'
def tA (K : PySem.W.Frag) (f : SL) : TA := fun σ H Q => ∃ m e h ds h', RE K m H σ e ∧ RH K m H h ∧ f e h = some (ds, h') ∧
  ∀ vs H' m', Stp m H m' H' → RH K m' H' h' → RDs K m' H' ds vs → Q vs H'
def tT (K : PySem.W.Frag) (f : ST) : TT := fun σ H Q => ∃ m e h k h', RE K m H σ e ∧ RH K m H h ∧ f e h = some (k, h') ∧
  ∀ H' m', Stp m H m' H' → RH K m' H' h' → Q k H'
def tP (K : PySem.W.Frag) (f : En → AH → Option (Option Int × AH)) : TO := fun σ H Q => ∃ m e h k h', RE K m H σ e ∧ RH K m H h ∧ f e h = some (k, h') ∧
  ∀ H' m', Stp m H m' H' → RH K m' H' h' → Q k H'
section
variable {X : Cx} {e a b c : Expr} {es : List Expr} {pos p p2 : Pos} {f f1 f2 f3 : SE} {fl fk : SL}
theorem _root_.L2.PE.imp {t t' : TE} (h : PE X e t) (i : ∀ σ H Q, t' σ H Q → t σ H Q) : PE X e t' := ⟨fun pins s σ H Q I w => h.run pins s σ H Q I (i σ H Q w)⟩
theorem _root_.L2.PT.imp {t t' : TT} (h : PT X e t) (i : ∀ σ H Q, t' σ H Q → t σ H Q) : PT X e t' := ⟨fun pins s σ H Q I w => h.run pins s σ H Q I (i σ H Q w)⟩
theorem _root_.L2.PW.imp {t t' : TT} (h : PW X e t) (i : ∀ σ H Q, t' σ H Q → t σ H Q) : PW X e t' := ⟨fun wh pins s σ H Q I w => h.run wh pins s σ H Q I (i σ H Q w)⟩
theorem _root_.L2.PA.imp {t t' : TA} (h : PA X es t) (i : ∀ σ H Q, t' σ H Q → t σ H Q) : PA X es t' := ⟨fun pos pins s σ H Q I w => h.run pos pins s σ H Q I (i σ H Q w)⟩
theorem _root_.L2.PO.imp {o : Option Expr} {t t' : TO} (h : PO X o t) (i : ∀ σ H Q, t' σ H Q → t σ H Q) : PO X o t' := ⟨fun pins s σ H Q I w => h.run pins s σ H Q I (i σ H Q w)⟩
theorem s_var {i : Nat} {x : Str} (hN : X.N[i]? = some x) (hv : Vis X.env.scope x) (hd : (x == ("__debug__" : Str)) = false) (hcd : (x == ("__classdict__" : Str)) = false) :
    PE X (.Name x pos) (tE X.K (aVar i)) := (pe_var hN hv hd hcd).imp fun σ H Q ⟨m, e, h, d, h', re, rh, ef, c⟩ => by
  unfold aVar at ef
  split at ef
  · rename_i d0 q
    cases ef
    obtain ⟨v, h1, h2⟩ := re.at_ i _ q
    exact ⟨v, h1, c v H m .refl rh h2⟩
  · cases ef
theorem s_c {d : D} {v : V} (h : PE X e (tC v)) (r : ∀ m H, RD X.K m H d v) : PE X e (tE X.K (aC d)) := h.imp fun σ H Q ⟨m, e, h, d', h', re, rh, ef, c⟩ => by
  cases ef
  exact c v H m .refl rh (r m H)
theorem s_nil : PA X [] (tA X.K fun _ h => some ([], h)) := pa_nil.imp fun σ H Q ⟨m, e, h, ds, h', re, rh, ef, c⟩ => by
  cases ef
  exact c [] H m .refl rh .nil
theorem s_cons (ha : PE X a (tE X.K f)) (hr : PA X es (tA X.K fl)) (hs : starEach (a :: es) X.env = (false, eval a X.env) :: starEach es X.env) : PA X (a :: es) (tA X.K (aCons f fl)) :=
  (pa_cons ha hr hs).imp fun σ H Q ⟨m, e, h, ds, h', re, rh, ef, c⟩ => by
    unfold aCons at ef
    split at ef
    · rename_i x h1 q1
      split at ef
      · rename_i xs h2 q2
        cases ef
        exact ⟨m, e, h, x, h1, re, rh, q1, fun v1 H1 m1 s1 rh1 r1 => ⟨m1, e, h1, xs, _, re.mono s1, rh1, q2, fun vs H2 m2 s2 rh2 r2 => c _ H2 m2 (s1.trans s2) rh2 (.cons (r1.mono s2) r2)⟩⟩
      · cases ef
    · cases ef
theorem s_star (ha : PE X a (tE X.K f)) (hr : PA X es (tA X.K fl)) : PA X (.Starred a p :: es) (tA X.K (aStar f fl)) :=
  (StX.pa_star ha hr (by rfl)).imp fun σ H Q ⟨m, e, h, ds, h', re, rh, ef, c⟩ => by
    unfold aStar at ef
    split at ef
    · rename_i x h1 q1
      split at ef
      · rename_i xs q
        split at ef
        · rename_i ys h2 q2
          cases ef
          refine ⟨m, e, h, x, h1, re, rh, q1, fun v1 H1 m1 s1 rh1 r1 => ?_⟩
          obtain ⟨ad, vs, rfl, sq, rs⟩ := seq_at rh1 r1 q
          exact ⟨ad, vs, rfl, sq.symm, ⟨m1, e, h1, ys, _, re.mono s1, rh1, q2, fun us H2 m2 s2 rh2 r2 => c _ H2 m2 (s1.trans s2) rh2 ((rs.mono s2).append r2)⟩⟩
        · cases ef
      · cases ef
    · cases ef
theorem s_tup {k : Nat} (ha : PA X es (tA X.K fl)) : PE X (.Tuple es k pos) (tE X.K (aTup fl)) := (pe_tup ha).imp fun σ H Q ⟨m, e, h, d, h', re, rh, ef, c⟩ => by
  unfold aTup at ef
  split at ef
  · rename_i ds h1 q1
    split at ef
    · rename_i hl
      cases ef
      refine ⟨m, e, h, ds, _, re, rh, q1, fun vs H1 m1 s1 rh1 r1 => ⟨most_le (by rw [← r1.length]; exact hl), fun q hq => ?_⟩⟩
      exact c _ _ m1 (s1.trans (.new hq)) (rh1.new hq) (.tup (.of upd_same) (r1.mono (.new hq)))
    · cases ef
  · cases ef
theorem s_lst {pf : Bool} (ha : PA X es (tA X.K fl)) : PE X (.List es pos) (tE X.K (aLst pf fl)) := (pe_lst ha).imp fun σ H Q ⟨m, e, h, d, h', re, rh, ef, c⟩ => by
  unfold aLst at ef
  split at ef
  · rename_i ds h1 q1
    split at ef
    · rename_i hl
      refine ⟨m, e, h, ds, h1, re, rh, q1, fun vs H1 m1 s1 rh1 r1 => ⟨most_le (by rw [← r1.length]; exact hl), fun q hq => ?_⟩⟩
      exact post_of rh1 ef (fun v H' m' s2 rh2 rd => c v H' m' (s1.trans s2) rh2 rd) q vs hq r1
    · cases ef
  · cases ef
theorem s_bin (g : CG X) {op : BOp} {pf : Bool} (ha : PE X a (tE X.K f)) (hb : PE X b (tE X.K f2)) : PE X (.BinOp a op.py b pos) (tE X.K (aBin op pf f f2)) := (pe_op (op_bin g op) ha hb).imp fun σ H Q ⟨m, e, h, d, h', re, rh, ef, c⟩ => by
  unfold aBin at ef
  split at ef
  · rename_i x h1 q1
    split at ef
    · rename_i y h2 q2
      split at ef
      · rename_i r q3
        exact ⟨m, e, h, x, h1, re, rh, q1, fun v1 H1 m1 s1 rh1 r1 => ⟨m1, e, h1, y, h2, re.mono s1, rh1, q2, fun v2 H2 m2 s2 rh2 r2 =>
          ⟨m2, h2, x, y, r, rh2, r1.mono s2, r2, q3, post_of rh2 ef fun v H' m' s3 rh3 rd => c v H' m' ((s1.trans s2).trans s3) rh3 rd⟩⟩⟩
      · cases ef
    · cases ef
  · cases ef
theorem s_neg (ha : PE X a (tE X.K f)) : PE X (.UnaryOp .USub a pos) (tE X.K (aNeg f)) := (pe_un un_neg ha).imp fun σ H Q ⟨m, e, h, d, h', re, rh, ef, c⟩ => by
  unfold aNeg at ef
  split at ef
  · rename_i i h1 q1
    cases ef
    refine ⟨m, e, h, _, _, re, rh, q1, fun v1 H1 m1 s1 rh1 r1 => ?_⟩
    cases r1
    exact ⟨i, rfl, c _ _ m1 s1 rh1 (.int _)⟩
  · cases ef
theorem s_cmp (g : CG X) {op : COp} (ha : PE X a (tE X.K f)) (hb : PE X b (tE X.K f2)) (hm : behindInMarks op.py b = false) : PE X (.Compare a [op.py] [b] pos) (tE X.K (aCmp op f f2)) := (pe_cmpR (op_cmp g op) ha hb hm).imp fun σ H Q ⟨m, e, h, d, h', re, rh, ef, c⟩ => by
  unfold aCmp at ef
  split at ef
  · rename_i x h1 q1
    split at ef
    · rename_i y h2 q2
      split at ef
      · rename_i k q3
        cases ef
        exact ⟨m, e, h, x, h1, re, rh, q1, fun v1 H1 m1 s1 rh1 r1 => ⟨m1, e, h1, y, _, re.mono s1, rh1, q2, fun v2 H2 m2 s2 rh2 r2 =>
          ⟨m2, _, x, y, k, rh2, r1.mono s2, r2, q3, c _ H2 m2 (s1.trans s2) rh2 (.bl k)⟩⟩⟩
      · cases ef
    · cases ef
  · cases ef
theorem st_cmp (g : CG X) {op : COp} (ha : PE X a (tE X.K f)) (hb : PE X b (tE X.K f2)) (hm : behindInMarks op.py b = false) : PT X (.Compare a [op.py] [b] pos) (tT X.K (tst (aCmp op f f2))) := (pt_cmpR (op_cmp g op) ha hb hm).imp fun σ H Q ⟨m, e, h, d, h', re, rh, ef, c⟩ => by
  unfold tst aCmp at ef
  split at ef
  · rename_i x0 h0 q0
    split at q0
    · rename_i x h1 q1
      split at q0
      · rename_i y h2 q2
        split at q0
        · rename_i k q3
          cases q0
          cases ef
          exact ⟨m, e, h, x, h1, re, rh, q1, fun v1 H1 m1 s1 rh1 r1 => ⟨m1, e, h1, y, _, re.mono s1, rh1, q2, fun v2 H2 m2 s2 rh2 r2 =>
            ⟨m2, _, x, y, _, rh2, r1.mono s2, r2, q3, _, rfl, c H2 m2 (s1.trans s2) rh2⟩⟩⟩
        · cases q0
      · cases q0
    · cases q0
  · cases ef
theorem chain_core {K : PySem.W.Frag} {o1 o2 : COp} {σ : L2.St} {H : Hp} {Q : VK} (w : tE K (aChain o1 o2 f f2 f3) σ H Q) : tChain (rDC K o1) (rDC K o2) (tE K f) (tE K f2) (tE K f3) σ H Q := by
  obtain ⟨m, e, h, d, h', re, rh, ef, c⟩ := w
  unfold aChain at ef
  split at ef
  · rename_i x h1 q1
    split at ef
    · rename_i y h2 q2
      split at ef
      · rename_i k q3
        refine ⟨m, e, h, x, h1, re, rh, q1, fun v1 H1 m1 s1 rh1 r1 => ⟨m1, e, h1, y, _, re.mono s1, rh1, q2, fun v2 H2 m2 s2 rh2 r2 => ⟨m2, _, x, y, k, rh2, r1.mono s2, r2, q3, k, rfl, ?_⟩⟩⟩
        cases k with
        | false =>
          cases ef
          rw [if_neg Bool.false_ne_true]
          exact c _ H2 m2 (s1.trans s2) rh2 (.bl false)
        | true =>
          rw [if_pos rfl]
          rw [if_pos rfl] at ef
          split at ef
          · rename_i z h3 q4
            split at ef
            · rename_i k2 q5
              cases ef
              exact ⟨m2, e, h2, z, _, (re.mono s1).mono s2, rh2, q4, fun v3 H3 m3 s3 rh3 r3 => ⟨m3, _, y, z, k2, rh3, r2.mono s3, r3, q5, c _ H3 m3 ((s1.trans s2).trans s3) rh3 (.bl k2)⟩⟩
            · cases ef
          · cases ef
      · cases ef
    · cases ef
  · cases ef
theorem s_chain (g : CG X) {o1 o2 : COp} (ha : PE X a (tE X.K f)) (hb : PE X b (tE X.K f2)) (hc : PE X c (tE X.K f3)) (hm : lastMarks [o1.py, o2.py] [b, c] = false) :
    PE X (.Compare a [o1.py, o2.py] [b, c] pos) (tE X.K (aChain o1 o2 f f2 f3)) := (pe_chain (op_cmp g o1) (op_cmp g o2) ha hb hc hm).imp fun σ H Q w => chain_core w
theorem dCmp_bl {K : PySem.W.Frag} {m : Mz} {H : Hp} {k : Bool} {v : V} (r : RD K m H (.bl k) v) : v = .bl k := by cases r; rfl
theorem aChain_bl {o1 o2 : COp} {e : En} {h h' : AH} {d : D} (q : aChain o1 o2 f f2 f3 e h = some (d, h')) : ∃ k, d = .bl k := by
  unfold aChain at q
  repeat' split at q
  all_goals first | (cases q; exact ⟨_, rfl⟩) | (cases q; done)
theorem tst_bl {f : SE} {e : En} {h h' : AH} {k : Bool} (hb : ∀ d h', f e h = some (d, h') → ∃ k, d = .bl k) (q : tst f e h = some (k, h')) : f e h = some (.bl k, h') := by
  unfold tst at q
  split at q
  · rename_i d h1 q1
    obtain ⟨k', rfl⟩ := hb _ _ q1
    cases q
    exact q1
  · cases q
theorem st_chain (g : CG X) {o1 o2 : COp} (ha : PE X a (tE X.K f)) (hb : PE X b (tE X.K f2)) (hc : PE X c (tE X.K f3)) (hm : lastMarks [o1.py, o2.py] [b, c] = false) :
    PT X (.Compare a [o1.py, o2.py] [b, c] pos) (tT X.K (tst (aChain o1 o2 f f2 f3))) := (pt_chain (op_cmp g o1) (op_cmp g o2) ha hb hc hm).imp fun σ H Q ⟨m, e, h, k, h', re, rh, ef, c⟩ =>
  chain_core ⟨m, e, h, .bl k, h', re, rh, tst_bl (fun _ _ q => aChain_bl q) ef, fun v H' m' s rh' r => ⟨k, dCmp_bl r, c H' m' s rh'⟩⟩
/-- a plain expression as a test -/
theorem st_val (ha : PE X a (tE X.K f)) (he : ∀ whole, isTrue a X.env whole = (do let v ← whole; standAt a.pos; holding [v] (truthy v))) : PT X a (tT X.K (tst f)) := (pt_truth ha he).imp fun σ H Q ⟨m, e, h, k, h', re, rh, ef, c⟩ => by
  unfold tst at ef
  split at ef
  · rename_i d h1 q1
    split at ef
    · rename_i k0 q2
      cases ef
      exact ⟨m, e, h, d, _, re, rh, q1, fun v H1 m1 s1 rh1 r1 => ⟨k, tru_D rh1 r1 q2, c H1 m1 s1 rh1⟩⟩
    · cases ef
  · cases ef
theorem s_not (ha : PE X a (tE X.K f)) : PE X (.UnaryOp .Not a pos) (tE X.K (aNot f)) := (pe_not ha).imp fun σ H Q ⟨m, e, h, d, h', re, rh, ef, c⟩ => by
  unfold aNot at ef
  split at ef
  · rename_i k h1 q1
    cases ef
    refine ⟨m, e, h, _, _, re, rh, q1, fun v H1 m1 s1 rh1 r1 => ?_⟩
    cases r1
    exact ⟨k, rfl, c _ H1 m1 s1 rh1 (.bl _)⟩
  · cases ef
variable {t1 t2 t3 : ST}
theorem st_not (ha : PT X a (tT X.K t1)) : PT X (.UnaryOp .Not a pos) (tT X.K (aNotT t1)) := (pt_not ha).imp fun σ H Q ⟨m, e, h, k, h', re, rh, ef, c⟩ => by
  unfold aNotT at ef
  split at ef
  · rename_i k0 h1 q1
    cases ef
    exact ⟨m, e, h, _, _, re, rh, q1, fun H1 m1 s1 rh1 => c H1 m1 s1 rh1⟩
  · cases ef
theorem s_ite (ht : PT X c (tT X.K t1)) (ha : PE X a (tE X.K f)) (hb : PE X b (tE X.K f2)) : PE X (.IfExp c a b pos) (tE X.K (aIte t1 f f2)) := (pe_ifExp ht ha hb).imp fun σ H Q ⟨m, e, h, d, h', re, rh, ef, c⟩ => by
  unfold aIte at ef
  split at ef
  · rename_i k h1 q1
    refine ⟨m, e, h, k, h1, re, rh, q1, fun H1 m1 s1 rh1 => ?_⟩
    cases k with
    | true => exact iteT ⟨m1, e, h1, d, h', re.mono s1, rh1, ef, fun v H2 m2 s2 => c v H2 m2 (s1.trans s2)⟩
    | false => exact iteF ⟨m1, e, h1, d, h', re.mono s1, rh1, ef, fun v H2 m2 s2 => c v H2 m2 (s1.trans s2)⟩
  · cases ef
theorem st_ite (ht : PT X c (tT X.K t1)) (ha : PT X a (tT X.K t2)) (hb : PT X b (tT X.K t3)) : PT X (.IfExp c a b pos) (tT X.K (aIte t1 t2 t3)) := by
  refine ⟨fun pins s σ H Q I w => ?_⟩
  obtain ⟨m, e, h, d, h', re, rh, ef, c⟩ := w
  unfold aIte at ef
  split at ef
  · rename_i k h1 q1
    refine isTrue_IfExp (thn (ht.run pins s σ H (fun k' H1 => k' = k ∧ ∃ m1, Stp m H m1 H1 ∧ RH X.K m1 H1 h1) I ⟨m, e, h, k, h1, re, rh, q1, fun H1 m1 s1 rh1 => ⟨rfl, m1, s1, rh1⟩⟩) fun k' s' hh => ?_)
    obtain ⟨H1, I1, rfl, m1, s1, rh1⟩ := hh
    cases k' with
    | true => exact ha.run pins s' σ H1 Q I1 ⟨m1, e, h1, d, h', re.mono s1, rh1, ef, fun H2 m2 s2 => c H2 m2 (s1.trans s2)⟩
    | false => exact hb.run pins s' σ H1 Q I1 ⟨m1, e, h1, d, h', re.mono s1, rh1, ef, fun H2 m2 s2 => c H2 m2 (s1.trans s2)⟩
  · cases ef
/-- and, or as tests -/
theorem sw_and1 (ha : PT X a (tT X.K t1)) : PW X (.BoolOp .And [a] pos) (tT X.K (aAnd t1 fun _ h => some (true, h))) := (pw_and1 ha).imp fun σ H Q ⟨m, e, h, k, h', re, rh, ef, c⟩ => by
  refine ⟨m, e, h, k, h', re, rh, ?_, c⟩
  unfold aAnd at ef
  split at ef
  · rename_i k0 h1 q1
    cases k0 <;> (cases ef; exact q1)
  · cases ef
theorem sw_or1 (ha : PT X a (tT X.K t1)) : PW X (.BoolOp .Or [a] pos) (tT X.K (aOr t1 fun _ h => some (false, h))) := (pw_or1 ha).imp fun σ H Q ⟨m, e, h, k, h', re, rh, ef, c⟩ => by
  refine ⟨m, e, h, k, h', re, rh, ?_, c⟩
  unfold aOr at ef
  split at ef
  · rename_i k0 h1 q1
    cases k0 <;> (cases ef; exact q1)
  · cases ef
theorem sw_and (ha : PT X a (tT X.K t1)) (hb : PW X (.BoolOp .And (b :: es) pos) (tT X.K t2)) : PW X (.BoolOp .And (a :: b :: es) pos) (tT X.K (aAnd t1 t2)) := (pw_and ha hb).imp fun σ H Q ⟨m, e, h, k, h', re, rh, ef, c⟩ => by
  unfold aAnd at ef
  split at ef
  · rename_i k0 h1 q1
    refine ⟨m, e, h, k0, h1, re, rh, q1, fun H1 m1 s1 rh1 => ?_⟩
    cases k0 with
    | true => exact iteT ⟨m1, e, h1, k, h', re.mono s1, rh1, ef, fun H2 m2 s2 => c H2 m2 (s1.trans s2)⟩
    | false =>
      cases ef
      exact iteF (c H1 m1 s1 rh1)
  · cases ef
theorem sw_or (ha : PT X a (tT X.K t1)) (hb : PW X (.BoolOp .Or (b :: es) pos) (tT X.K t2)) : PW X (.BoolOp .Or (a :: b :: es) pos) (tT X.K (aOr t1 t2)) := (pw_or ha hb).imp fun σ H Q ⟨m, e, h, k, h', re, rh, ef, c⟩ => by
  unfold aOr at ef
  split at ef
  · rename_i k0 h1 q1
    refine ⟨m, e, h, k0, h1, re, rh, q1, fun H1 m1 s1 rh1 => ?_⟩
    cases k0 with
    | false => exact iteF ⟨m1, e, h1, k, h', re.mono s1, rh1, ef, fun H2 m2 s2 => c H2 m2 (s1.trans s2)⟩
    | true =>
      cases ef
      exact iteT (c H1 m1 s1 rh1)
  · cases ef
/-- .. as values -/
theorem sv_one {op : BoolOp} (ha : PE X a (tE X.K f)) : PE X (.BoolOp op [a] pos) (tE X.K f) := pe_one ha
theorem sv_and {xs : XEs} (hx : xs ≠ .nil) (ha : PE X a (tE X.K f)) (hb : PE X (.BoolOp .And (b :: es) pos) (tE X.K f2)) : PE X (.BoolOp .And (a :: b :: es) pos) (tE X.K (aAndV f xs f2)) := (pe_and ha hb).imp fun σ H Q ⟨m, e, h, d, h', re, rh, ef, c⟩ => by
  unfold aAndV at ef
  split at ef
  · exact absurd rfl hx
  · split at ef
    · rename_i k0 h1 q1
      refine ⟨m, e, h, _, h1, re, rh, q1, fun v H1 m1 s1 rh1 r1 => ?_⟩
      cases r1
      refine ⟨k0, rfl, ?_⟩
      cases k0 with
      | true => exact iteT ⟨m1, e, h1, d, h', re.mono s1, rh1, ef, fun v H2 m2 s2 => c v H2 m2 (s1.trans s2)⟩
      | false =>
        cases ef
        exact iteF (c _ H1 m1 s1 rh1 (.bl false))
    · cases ef
theorem sv_or {xs : XEs} (hx : xs ≠ .nil) (ha : PE X a (tE X.K f)) (hb : PE X (.BoolOp .Or (b :: es) pos) (tE X.K f2)) : PE X (.BoolOp .Or (a :: b :: es) pos) (tE X.K (aOrV f xs f2)) := (pe_or ha hb).imp fun σ H Q ⟨m, e, h, d, h', re, rh, ef, c⟩ => by
  unfold aOrV at ef
  split at ef
  · exact absurd rfl hx
  · split at ef
    · rename_i k0 h1 q1
      refine ⟨m, e, h, _, h1, re, rh, q1, fun v H1 m1 s1 rh1 r1 => ?_⟩
      cases r1
      refine ⟨k0, rfl, ?_⟩
      cases k0 with
      | false => exact iteF ⟨m1, e, h1, d, h', re.mono s1, rh1, ef, fun v H2 m2 s2 => c v H2 m2 (s1.trans s2)⟩
      | true =>
        cases ef
        exact iteT (c _ H1 m1 s1 rh1 (.bl true))
    · cases ef
/-- a[b] -/
theorem s_ix (ha : PE X a (tE X.K f)) (hb : PE X b (tE X.K f2)) (hs : PlainIx b) : PE X (.Subscript a b pos) (tE X.K (aIx f f2)) := (pe_ix ix_D ha hb hs).imp fun σ H Q ⟨m, e, h, d, h', re, rh, ef, c⟩ => by
  unfold aIx at ef
  split at ef
  · rename_i x h1 q1
    split at ef
    · rename_i y h2 q2
      split at ef
      · rename_i d0 q3
        cases ef
        exact ⟨m, e, h, x, h1, re, rh, q1, fun v1 H1 m1 s1 rh1 r1 => ⟨m1, e, h1, y, _, re.mono s1, rh1, q2, fun v2 H2 m2 s2 rh2 r2 =>
          ⟨m2, _, x, y, _, rh2, r1.mono s2, r2, q3, fun v rv => c v H2 m2 (s1.trans s2) rh2 rv⟩⟩⟩
      · cases ef
    · cases ef
  · cases ef
/-- a[lo:hi] -/
theorem s_po0 : PO X none (tP X.K fun _ h => some (none, h)) := po_none.imp fun σ H Q ⟨m, e, h, k, h', re, rh, ef, c⟩ => by
  cases ef
  exact c H m .refl rh
theorem s_po1 {q : XE} (hq : q ≠ .hole) (ha : PE X a (tE X.K f)) : PO X (some a) (tP X.K (aO q f)) := (po_some ha).imp fun σ H Q ⟨m, e, h, k, h', re, rh, ef, c⟩ => by
  unfold aO at ef
  split at ef
  · exact absurd rfl hq
  · split at ef
    · rename_i i h1 q1
      cases ef
      refine ⟨m, e, h, _, _, re, rh, q1, fun v H1 m1 s1 rh1 r1 => ?_⟩
      cases r1
      exact ⟨i, rfl, c H1 m1 s1 rh1⟩
    · cases ef
theorem s_sl {lo hi : Option Expr} {l u : En → AH → Option (Option Int × AH)} (ha : PE X a (tE X.K f)) (hl : PO X lo (tP X.K l)) (hu : PO X hi (tP X.K u)) : PE X (.Subscript a (.Slice lo hi none p2) pos) (tE X.K (aSl f l u)) := (pe_slice sl_D ha hl hu).imp fun σ H Q ⟨m, e, h, d, h', re, rh, ef, c⟩ => by
  unfold aSl at ef
  split at ef
  · rename_i x h1 q1
    split at ef
    · rename_i l0 h2 q2
      split at ef
      · rename_i u0 h3 q3
        split at ef
        · rename_i d0 q4
          cases ef
          exact ⟨m, e, h, x, h1, re, rh, q1, fun v1 H1 m1 s1 rh1 r1 => ⟨m1, e, h1, l0, h2, re.mono s1, rh1, q2, fun H2 m2 s2 rh2 => ⟨m2, e, h2, u0, _, (re.mono s1).mono s2, rh2, q3, fun H3 m3 s3 rh3 =>
            ⟨m3, _, x, _, rh3, (r1.mono s2).mono s3, q4, fun v H' sm rv => c v H' m3 (((s1.trans s2).trans s3).trans (.same sm)) (rh3.same sm) rv⟩⟩⟩⟩
        · cases ef
      · cases ef
    · cases ef
  · cases ef
end
end Ev
/-! Ev part F: calls, built-ins, methods. -/
namespace Ev
open PySem PySem.Spec PyProof.Rows L2

/-- what a def of the program promises: the abstract function's value -/
def spF (K : PySem.W.Frag) (cf : CF) (f : Str) : Sp := fun vs H Q _ => ∃ m h ds d h', RDs K m H ds vs ∧ RH K m H h ∧ cf f ds h = some (d, h') ∧
  ∀ v H' m', Stp m H m' H' → RH K m' H' h' → RD K m' H' d v → Q v H'
/-- a def's promise where no repr is under way -/
structure Gd (P : Program) (w : World) (K : PySem.W.Frag) (mg : Str → Option Value) (base : Heap) (lv : Nat) (fa : Addr) (fd : FuncData) (ps : List Str) (sp : Sp) : Prop where
  size : ∀ vs H Q, sp vs H Q E0 → vs.length = ps.length
  go : ∀ (A : Around) (outer : List Env) (s : Shared) (H : Hp) (gv : Args) (us : List Value) (vs : List V) (Q : VK), A.guards = some [] → Room lv A → Env0 P w K mg base A outer s H → BindsTo s fd gv (ps.zip us) → Vals vs us →
    sp vs H Q E0 → codeAny (model P w) A (.call (.ref fa) gv) (CR CX0 outer P w H s Q E0) s
/-- where a body calls a def -/
theorem Gd.at_ {X : Cx} {lv : Nat} {fa : Addr} {fd : FuncData} {ps : List Str} {sp : Sp} (G : Gd X.prog X.w X.K X.mg X.base lv fa fd ps sp) (gr : X.A.guards = some []) (rm : Room lv X.A) {pins : List (Addr × Obj)} {σ : L2.St} {H : Hp} {s : Shared} {Q : VK} (I : Inv X pins σ H s)
    {us zs : List Value} {ks : List Str} {ws : List Value} {vs : List V} (b : BindsTo s fd ⟨us, ks.zip ws⟩ (ps.zip zs)) (r : Vals vs zs) (q : sp vs H Q E0) : wpAny (model X.prog X.w) X.A (call (.ref fa) us (ks.zip ws)) (EP X pins σ Q) X.xe s := by
  have run := G.go X.A X.stack s H _ zs vs Q gr rm I.env0 b r q
  refine wpAny_call (codeAny_mono run fun out s' back => ?_)
  match out, back with
  | .ok (.ret u), back => exact I.after back
theorem gd_pos {X : Cx} {lv : Nat} {fa : Addr} {fd : FuncData} {ps : List Str} {sp : Sp} {x : Str} {p pos : Pos} {a : Expr} {es : List Expr} {t : TA} (G : Gd X.prog X.w X.K X.mg X.base lv fa fd ps sp) (gr : X.A.guards = some []) (rm : Room lv X.A) (hx : Gl X x)
    (gx : X.mg x = some (.ref fa)) (kx : PySem.W.keepIn X.K (.ref fa) = true) (b : Binds X.K fd ps []) (ha : PA X (a :: es) t) (hdb : (x == ("__debug__" : Str)) = false) (st : starEach (a :: es) X.env = (false, eval a X.env) :: starEach es X.env)
    (pl : (backTo pos (starEach es X.env)).any (·.1) = false) : PE X (.Call (.Name x p) (a :: es) [] pos) (fun σ H Q => t σ H fun vs H1 => sp vs H1 Q E0) := ⟨fun pins s σ H Q I h => by
  refine wpAny_Call_Name_kw (ld_glob I hx gx ?_ hdb)
  refine PySem.W.callWith_K (h₀ := X.base) I.ok.mod.kin kx (thn (ha.run pos pins s σ H _ I h) fun us s1 k => ?_) st pl
  obtain ⟨vs, H1, I1, r, q⟩ := k
  have len : (us ++ ([] : List Value)).length = ps.length := by rw [List.append_nil, ← r.length, G.size _ _ _ q]
  have bb := b s1 us I1.kIn len
  rw [List.append_nil] at bb
  exact ⟨I1.kIn, G.at_ (ks := []) (ws := []) gr rm I1 bb r q⟩⟩
theorem gd_key {X : Cx} {lv n : Nat} {fa : Addr} {fd : FuncData} {ps ks : List Str} {sp : Sp} {x : Str} {p pos : Pos} {a : Expr} {es : List Expr} {kws : List Keyword} {t tk : TA} {g : List Value → List Value → List Value} {gV : List V → List V → List V}
    (G : Gd X.prog X.w X.K X.mg X.base lv fa fd ps sp) (gr : X.A.guards = some []) (rm : Room lv X.A) (hx : Gl X x) (gx : X.mg x = some (.ref fa)) (kx : PySem.W.keepIn X.K (.ref fa) = true) (b : KBn X.K fd ps n ks g gV) (ha : PA X (a :: es) t) (hk : PK X kws tk)
    (al : (backToKw pos (keywordEach kws X.env)).all (·.1.isSome) = true) (nk : (backToKw pos (keywordEach kws X.env)).filterMap (·.1) = ks) (hdb : (x == ("__debug__" : Str)) = false) (st : starEach (a :: es) X.env = (false, eval a X.env) :: starEach es X.env)
    (pl : ((backTo pos (starEach (a :: es) X.env)).any (·.1) || (backToKw pos (keywordEach kws X.env)).any (·.1.isNone)) = false) : PE X (.Call (.Name x p) (a :: es) kws pos) (tCallN n ks.length sp gV E0 t tk) := ⟨fun pins s σ H Q I h => by
  refine wpAny_Call_Name_kw (ld_glob I hx gx ?_ hdb)
  refine PySem.W.callWith_KW (h₀ := X.base) I.ok.mod.kin kx al (thn (ha.run pos pins s σ H _ I h) fun us s1 k => ?_) pl st
  obtain ⟨vs, H1, I1, r, q⟩ := k
  refine thn (hk.run pos pins s1 σ H1 _ I1 q) fun ws s2 k2 => ?_
  obtain ⟨zs, H2, I2, rz, l1, l2, q2⟩ := k2
  rw [nk]
  exact ⟨I2.kIn, G.at_ gr rm I2 (b.to s2 us ws I2.kIn (by rw [← r.length, l1]) (by rw [← rz.length, l2])) (b.rel r rz) q2⟩⟩
def pick {α : Type} (perm : List Nat) (us ws : List α) : List α := perm.filterMap fun i => (us ++ ws)[i]?
/-- a keyword call's binding: n positional values, the keywords' names, where each parameter's value comes from -/
structure FnF (X : Cx) (cf : CF) (f : Str) (ps : List Str) (kbs : List (Nat × List Str × List Nat)) : Prop where
  ex : ∃ (fa : Addr) (fd : FuncData) (lv : Nat), X.A.guards = some [] ∧ Gd X.prog X.w X.K X.mg X.base lv fa fd ps (spF X.K cf f) ∧ Room lv X.A ∧ X.mg f = some (.ref fa) ∧ PySem.W.keepIn X.K (.ref fa) = true ∧ Binds X.K fd ps [] ∧
    ∀ q ∈ kbs, KBn X.K fd ps q.1 q.2.1 (pick q.2.2) (pick q.2.2)
section
variable {X : Cx} {e a b c : Expr} {es : List Expr} {pos p p2 : Pos} {f f1 f2 f3 : SE} {fl fk : SL} {cf : CF} {x : Str} {ps : List Str} {kbs : List (Nat × List Str × List Nat)}
theorem s_call (F : FnF X cf x ps kbs) (hg : Gl X x) (ha : PA X (a :: es) (tA X.K fl)) (hdb : (x == ("__debug__" : Str)) = false) (he : starEach (a :: es) X.env = (false, eval a X.env) :: starEach es X.env)
    (hpl : (backTo pos (starEach es X.env)).any (·.1) = false) : PE X (.Call (.Name x p) (a :: es) [] pos) (tE X.K (aCall cf x fl)) := by
  obtain ⟨fa, fd, lv, gr, G, hr, hm, hk, hb, _⟩ := F.ex
  refine (gd_pos G gr hr hg hm hk hb ha hdb he hpl).imp fun σ H Q ⟨m, e, h, d, h', re, rh, ef, c⟩ => ?_
  unfold aCall at ef
  split at ef
  · rename_i ds h1 q1
    refine ⟨m, e, h, ds, h1, re, rh, q1, fun vs H1 m1 s1 rh1 r1 => ?_⟩
    show spF X.K cf x vs H1 Q E0
    exact ⟨m1, h1, ds, d, h', r1, rh1, ef, fun v H' m' s rh' rd => c v H' m' (s1.trans s) rh' rd⟩
  · cases ef
theorem rds_pick {K : PySem.W.Frag} {m : Mz} {H : Hp} {ds ks : List D} {vs zs : List V} (r : RDs K m H ds vs) (q : RDs K m H ks zs) : ∀ perm : List Nat, RDs K m H (perm.filterMap fun i => (ds ++ ks)[i]?) (pick perm vs zs)
  | [] => .nil
  | i :: r' => by
    have z := r.append q
    have ih := rds_pick r q r'
    have hl := z.length
    unfold pick at ih ⊢
    rw [List.filterMap_cons, List.filterMap_cons]
    cases e : (ds ++ ks)[i]? with
    | none =>
      have e2 : (vs ++ zs)[i]? = none := by
        rw [List.getElem?_eq_none_iff] at e ⊢
        omega
      rw [e2]
      exact ih
    | some d =>
      obtain ⟨v, e2, rd⟩ := z.get e
      rw [e2]
      exact .cons rd ih
theorem s_pk_nil : PK X [] (tA X.K fun _ h => some ([], h)) := ⟨fun pos pins s σ H Q I w => pk_nil.run pos pins s σ H Q I (by
  obtain ⟨m, e, h, ds, h', re, rh, ef, c⟩ := w
  cases ef
  exact c [] H m .refl rh .nil)⟩
theorem s_pk_cons {nm : Option Str} {kpos : Pos} {kws : List Keyword} (ha : PE X a (tE X.K f)) (hr : PK X kws (tA X.K fl)) : PK X (⟨nm, a, kpos⟩ :: kws) (tA X.K (aCons f fl)) := ⟨fun pos pins s σ H Q I w => (pk_cons ha hr).run pos pins s σ H Q I (by
  obtain ⟨m, e, h, ds, h', re, rh, ef, c⟩ := w
  unfold aCons at ef
  split at ef
  · rename_i x h1 q1
    split at ef
    · rename_i xs h2 q2
      cases ef
      exact ⟨m, e, h, x, h1, re, rh, q1, fun v1 H1 m1 s1 rh1 r1 => ⟨m1, e, h1, xs, _, re.mono s1, rh1, q2, fun vs H2 m2 s2 rh2 r2 => c _ H2 m2 (s1.trans s2) rh2 (.cons (r1.mono s2) r2)⟩⟩
    · cases ef
  · cases ef)⟩
/-- lengths that a row of expressions gives -/
def LenIs (fl : SL) (n : Nat) : Prop := ∀ e h ds h', fl e h = some (ds, h') → ds.length = n
theorem s_callk {n : Nat} {ks : List Str} {perm : List Nat} {kws : List Keyword} (F : FnF X cf x ps kbs) (hq : (n, ks, perm) ∈ kbs) (hg : Gl X x) (ha : PA X (a :: es) (tA X.K fl)) (hkw : PK X kws (tA X.K fk)) (l1 : LenIs fl n) (l2 : LenIs fk ks.length)
    (hall : (backToKw pos (keywordEach kws X.env)).all (·.1.isSome) = true) (hks : (backToKw pos (keywordEach kws X.env)).filterMap (·.1) = ks)
    (hdb : (x == ("__debug__" : Str)) = false) (he : starEach (a :: es) X.env = (false, eval a X.env) :: starEach es X.env)
    (hpl : ((backTo pos (starEach (a :: es) X.env)).any (·.1) || (backToKw pos (keywordEach kws X.env)).any (·.1.isNone)) = false) :
    PE X (.Call (.Name x p) (a :: es) kws pos) (tE X.K (aCallk cf x perm fl fk)) := by
  obtain ⟨fa, fd, lv, gr, G, hr, hm, hk, hb, hkb⟩ := F.ex
  refine (gd_key G gr hr hg hm hk (hkb _ hq) ha hkw hall hks hdb he hpl).imp fun σ H Q ⟨m, e, h, d, h', re, rh, ef, c⟩ => ?_
  unfold aCallk at ef
  split at ef
  · rename_i ds h1 q1
    split at ef
    · rename_i kd h2 q2
      refine ⟨m, e, h, ds, h1, re, rh, q1, fun vs H1 m1 s1 rh1 r1 => ⟨m1, e, h1, kd, h2, re.mono s1, rh1, q2, fun zs H2 m2 s2 rh2 r2 => ⟨?_, ?_, ?_⟩⟩⟩
      · rw [← r1.length]; exact l1 _ _ _ _ q1
      · rw [← r2.length]; exact l2 _ _ _ _ q2
      · exact ⟨m2, h2, _, d, h', rds_pick (r1.mono s2) r2 perm, rh2, ef, fun v H' m' s rh' rd => c v H' m' ((s1.trans s2).trans s) rh' rd⟩
    · cases ef
  · cases ef
theorem s_callk0 {ks : List Str} {perm : List Nat} {kws : List Keyword} (F : FnF X cf x ps kbs) (hq : (0, ks, perm) ∈ kbs) (hg : Gl X x) (hkw : PK X kws (tA X.K fk)) (l2 : LenIs fk ks.length)
    (hall : (backToKw pos (keywordEach kws X.env)).all (·.1.isSome) = true) (hks : (backToKw pos (keywordEach kws X.env)).filterMap (·.1) = ks)
    (hdb : (x == ("__debug__" : Str)) = false) (hpl : ((backTo pos (starEach [] X.env)).any (·.1) || (backToKw pos (keywordEach kws X.env)).any (·.1.isNone)) = false) :
    PE X (.Call (.Name x p) [] kws pos) (tE X.K (aCallk cf x perm (fun _ h => some ([], h)) fk)) := by
  obtain ⟨fa, fd, lv, gr, G, hr, hm, hk, hb, hkb⟩ := F.ex
  refine ⟨fun pins s σ H Q I ⟨m, e, h, d, h', re, rh, ef, c⟩ => ?_⟩
  unfold aCallk at ef
  simp only at ef
  split at ef
  · rename_i kd h2 q2
    refine wpAny_Call_Name_kw (ld_glob I hg hm ?_ hdb)
    refine PySem.W.callWith_KW0 (h₀ := X.base) I.ok.mod.kin hk hall ?_ hpl
    refine thn (hkw.run pos pins s σ H (fun zs H2 => zs.length = ks.length ∧ spF X.K cf x (pick perm [] zs) H2 Q E0) I ⟨m, e, h, kd, h2, re, rh, q2, fun zs H2 m2 s2 rh2 r2 => ⟨by rw [← r2.length]; exact l2 _ _ _ _ q2, ?_⟩⟩) fun ws s2 ⟨zs, H2, I2, rz, hl, q2⟩ => ⟨I2.kIn, ?_⟩
    · exact ⟨m2, h2, _, d, h', rds_pick .nil r2 perm, rh2, ef, fun v H' m' s rh' rd => c v H' m' (s2.trans s) rh' rd⟩
    · rw [hks]
      exact G.at_ (us := []) (vs := pick perm [] zs) gr hr I2 ((hkb _ hq).to s2 [] ws I2.kIn rfl (by rw [← rz.length, hl])) ((hkb _ hq).rel .nil rz) q2
  · cases ef
/-! ### built-ins -/
theorem RDs.intV {K : PySem.W.Frag} {m : Mz} {H : Hp} : ∀ {ds : List D} {vs : List V} {ns : List Int}, RDs K m H ds vs → dints ds = some ns → vs = ns.map V.int
  | [], _, _, .nil, e => by cases e; rfl
  | d :: ds, _, ns, .cons a b, e => by
    cases d with
    | int i =>
      simp only [dints, Option.map_eq_some_iff] at e
      obtain ⟨r, q, rfl⟩ := e
      cases a
      rw [RDs.intV b q] <;> rfl
    | _ => simp [dints] at e
theorem RDs.blV {K : PySem.W.Frag} {m : Mz} {H : Hp} : ∀ {ds : List D} {vs : List V} {ns : List Bool}, RDs K m H ds vs → bls ds = some ns → vs = ns.map V.bl
  | [], _, _, .nil, e => by cases e; rfl
  | d :: ds, _, ns, .cons a b, e => by
    cases d with
    | bl i =>
      simp only [bls, Option.map_eq_some_iff] at e
      obtain ⟨r, q, rfl⟩ := e
      cases a
      rw [RDs.blV b q] <;> rfl
    | _ => simp [bls] at e
def rDF (K : PySem.W.Frag) (b : BI) : List V → Hp → VK → Prop := fun vs H Q => ∃ m h ds r, RH K m H h ∧ RDs K m H ds vs ∧ dBI h b ds = some r ∧ PostR K m H r Q
/-- the name that it is called by; the value that stands there -/
def BI.nm : BI → Str
  | .len => "len" | .isi _ => "isinstance" | .all => "all" | .any => "any" | .sum => "sum" | .list => "list" | .tuple => "tuple" | .int => "int" | .abs => "abs" | .max2 => "max" | .min2 => "min"
  | .divmod => "divmod" | .gcd => "gcd" | .listRange => "list" | .repr => "repr" | .maxL => "max" | .minL => "min" | .sorted => "sorted" | .bool => "bool" | .str => "str"
def BI.val : BI → Value
  | .len => .builtin "len" | .isi _ => .builtin "isinstance" | .all => .builtin "all" | .any => .builtin "any" | .sum => .builtin "sum" | .list => .type "list" | .tuple => .type "tuple" | .int => .type "int" | .abs => .builtin "abs" | .max2 => .builtin "max" | .min2 => .builtin "min"
  | .divmod => .builtin "divmod" | .gcd => .builtin "math.gcd" | .listRange => .type "list" | .repr => .builtin "repr" | .maxL => .builtin "max" | .minL => .builtin "min" | .sorted => .builtin "sorted" | .bool => .type "bool" | .str => .type "str"
/-- those that are called with values alone -/
def BI.plain : BI → Bool
  | .len | .all | .any | .sum | .list | .tuple | .int | .abs | .max2 | .min2 | .divmod | .gcd | .repr => true
  | _ => false
theorem nw {H : Hp} {p : Addr} {o : HO} (hp : H p = none) : Same H (upd H p o) := fun b u z => by rw [upd_ne (ne_of_none z hp)]; exact z
mutual
theorem py_noDict : ∀ d : D, d.py.hasDict = false
  | .non => rfl | .bl _ => rfl | .int _ => rfl | .str _ => rfl | .ref _ => rfl | .scr _ => rfl
  | .tup xs => by simpa only [D.py, PyData.hasDict] using pys_noDict xs
  | .lst xs => by simpa only [D.py, PyData.hasDict] using pys_noDict xs
theorem pys_noDict : ∀ ds : List D, PyData.hasDictAll (D.pys ds) = false
  | [] => rfl
  | d :: ds => by simp only [D.pys, PyData.hasDictAll, py_noDict d, pys_noDict ds, Bool.or_self]
end
theorem view_dpc {K : PySem.W.Frag} {m : Mz} {H : Hp} {h : AH} {d : D} {v : V} (rh : RH K m H h) (rd : RD K m H d v) (c : (view h d).cl = true) : Dp K H v (view h d).py := by
  cases rd with
  | ref hh =>
    rename_i n a
    unfold view at c ⊢
    simp only at c ⊢
    split at c
    · rename_i xs q
      obtain ⟨vs, e, r⟩ := rh.get hh q
      exact .lst (.of e) (r.dp (by simpa only [D.cl] using c))
    · cases c
  | tup hh r => exact RD.dp (.tup hh r) c
  | lst hh n r => exact RD.dp (.lst hh n r) c
  | scr hh => cases c
  | non => exact .non
  | bl b => exact .bl b
  | int i => exact .int i
  | str x => exact .str x
/-- repr(x) of nested lists and tuples -/
theorem repr_D (g : CG X) {pins : List (Addr × Obj)} {σ : L2.St} {H : Hp} {s : Shared} {Q : VK} {m : Mz} {h : AH} {d : D} {v : V} {u : Value} (I : Inv X pins σ H s) (ru : RelV v u) (rh : RH X.K m H h) (rd : RD X.K m H d v) (ok : repOk (view h d) = true)
    (q : Q (.str (view h d).py.shown) H) : wpAny (model X.prog X.w) X.A (call (.builtin "repr") [u]) (EP X pins σ Q) X.xe s := by
  unfold repOk at ok
  simp only [Bool.and_eq_true, decide_eq_true_eq] at ok
  obtain ⟨⟨⟨⟨o1, o2⟩, o3⟩, o4⟩, o5⟩ := ok
  obtain ⟨as, reads⟩ := Dp.reads I _ _ u (view_dpc rh rd o2) ru
  have isR : ∃ a, u = .ref a := by
    cases hv : view h d with
    | tup xs => rw [hv] at reads; simp only [D.py] at reads; cases reads; exact ⟨_, rfl⟩
    | lst xs => rw [hv] at reads; simp only [D.py] at reads; cases reads; exact ⟨_, rfl⟩
    | _ => rw [hv] at o1; cases o1
  obtain ⟨a, rfl⟩ := isR
  have un : X.A.units + ((view h d).py.depth + 1) < cLine := by
    have := g.room.un
    omega
  refine repr_of_reads' reads o3 (PySem.PyData.noDict_hsm (py_noDict _)) g.grd un (fun _ _ e => e) (fun h' t tk k => ?_) (by rw [sizeLine_eq]; omega)
  exact ⟨.str _, H, I.kept (t' := tk) k, ⟨t, rfl⟩, q⟩
theorem call_D (g : CG X) (b : BI) (hb : b.plain = true) : CallR X b.val (rDF X.K b) := by
  intro pins s σ H vs us Q I r hh
  obtain ⟨m, h, ds, z, rh, rd, e, P⟩ := hh
  unfold dBI at e
  split at e
  · rename_i a
    cases rd with
    | cons ra rn =>
      rename_i v vs
      cases rn
      cases b with
      | len =>
        unfold dB1 at e
        simp only at e
        split at e
        · split at e
          · rename_i hl
            cases e
            cases ra
            exact call_len_str pins s σ H _ us Q I r ⟨_, rfl, most_le hl, P _ _ (Same.refl H) (.int _)⟩
          · cases e
        · split at e
          · rename_i xs q
            cases e
            obtain ⟨p, ws, rfl, sq, rs⟩ := seq_at rh ra q
            refine call_len_seq pins s σ H _ us Q I r ⟨_, _, rfl, sq, ?_⟩
            rw [← rs.length]
            exact P _ _ (Same.refl H) (.int _)
          · cases e
      | repr =>
        unfold dB1 at e
        simp only at e
        split at e
        · rename_i ok
          cases e
          cases r with
          | cons r1 r2 =>
            cases r2
            exact repr_D g I r1 rh ra ok (P _ _ (Same.refl H) (.str _))
        · cases e
      | all =>
        unfold dB1 at e
        simp only at e
        split at e
        · rename_i xs q
          split at e
          · rename_i bs q2
            cases e
            obtain ⟨p, ws, rfl, sq, rs⟩ := lst_at rh ra q
            have z := rs.blV q2
            subst z
            exact cr_all g.calm pins s σ H _ us Q I r ⟨_, _, rfl, .of sq, P _ _ (Same.refl H) (.bl _)⟩
          · cases e
        · cases e
      | any =>
        unfold dB1 at e
        simp only at e
        split at e
        · rename_i xs q
          split at e
          · rename_i bs q2
            cases e
            obtain ⟨p, ws, rfl, sq, rs⟩ := lst_at rh ra q
            have z := rs.blV q2
            subst z
            exact cr_any g.calm pins s σ H _ us Q I r ⟨_, _, rfl, .of sq, P _ _ (Same.refl H) (.bl _)⟩
          · cases e
        · cases e
      | sum =>
        unfold dB1 at e
        simp only at e
        split at e
        · rename_i xs q
          split at e
          · rename_i bs q2
            cases e
            obtain ⟨p, ws, rfl, sq, rs⟩ := lst_at rh ra q
            have z := rs.intV q2
            subst z
            exact cr_sum g.calm pins s σ H _ us Q I r ⟨_, _, rfl, .of sq, P _ _ (Same.refl H) (.int _)⟩
          · cases e
        · cases e
      | list =>
        unfold dB1 at e
        simp only at e
        split at e
        · rename_i xs q
          cases e
          obtain ⟨p, ws, rfl, sq, rs⟩ := seq_at rh ra q
          exact call_list_of pins s σ H _ us Q I r ⟨_, _, rfl, sq, fun l hl => P l _ hl rs⟩
        · cases e
      | tuple =>
        unfold dB1 at e
        simp only at e
        split at e
        · cases e
          cases ra with
          | tup h1 r1 => exact call_tuple_of pins s σ H _ us Q I r ⟨_, _, rfl, .inr ⟨h1, P _ _ (Same.refl H) (.tup h1 r1)⟩⟩
        · split at e
          · rename_i xs q
            cases e
            obtain ⟨p, ws, rfl, sq, rs⟩ := lst_at rh ra q
            exact call_tuple_of pins s σ H _ us Q I r ⟨_, _, rfl, .inl ⟨.of sq, fun l hl => P _ _ (nw hl) (.tup (.of upd_same) (rs.mono (.new hl)))⟩⟩
          · cases e
      | int =>
        unfold dB1 at e
        simp only at e
        split at e
        · cases e
          cases ra
          exact call_int1 pins s σ H _ us Q I r (.inl ⟨_, rfl, P _ _ (Same.refl H) (.int _)⟩)
        · cases e
          cases ra
          exact call_int1 pins s σ H _ us Q I r (.inr ⟨_, rfl, P _ _ (Same.refl H) (.int _)⟩)
        · cases e
      | abs =>
        unfold dB1 at e
        simp only at e
        split at e
        · cases e
          cases ra
          exact call_abs pins s σ H _ us Q I r ⟨_, rfl, P _ _ (Same.refl H) (.int _)⟩
        · cases e
      | max2 => cases e
      | min2 => cases e
      | divmod => cases e
      | gcd => cases e
      | _ => cases hb
  · rename_i i j
    cases rd with
    | cons ra rn =>
      cases rn with
      | cons rb rn =>
        cases rn
        cases ra
        cases rb
        cases b with
        | max2 =>
          cases e
          exact call_max2 g.calm pins s σ H _ us Q I r ⟨_, _, rfl, P _ _ (Same.refl H) (.int _)⟩
        | min2 =>
          cases e
          exact call_min2 g.calm pins s σ H _ us Q I r ⟨_, _, rfl, P _ _ (Same.refl H) (.int _)⟩
        | divmod =>
          unfold dB2 at e
          simp only at e
          split at e
          · rename_i hj
            cases e
            exact call_divmodA g pins s σ H _ us Q I r ⟨_, _, rfl, hj, fun p hp => P _ _ (nw hp) (.tup (.of upd_same) (.cons (.int _) (.cons (.int _) .nil)))⟩
          · cases e
        | gcd =>
          cases e
          exact cr_gcd pins s σ H _ us Q I r ⟨_, _, rfl, P _ _ (Same.refl H) (.int _)⟩
        | repr => cases e
        | len => cases e
        | all => cases e
        | any => cases e
        | sum => cases e
        | list => cases e
        | tuple => cases e
        | int => cases e
        | abs => cases e
        | _ => cases hb
  · cases e
theorem bi_core {K : PySem.W.Frag} {bi : BI} {pf : Bool} {σ : L2.St} {H : Hp} {Q : VK} (w : tE K (aBi bi pf fl) σ H Q) : tA K fl σ H fun vs H1 => rDF K bi vs H1 Q := by
  obtain ⟨m, e, h, d, h', re, rh, ef, c⟩ := w
  unfold aBi at ef
  split at ef
  · rename_i ds h1 q1
    split at ef
    · rename_i r q2
      exact ⟨m, e, h, ds, h1, re, rh, q1, fun vs H1 m1 s1 rh1 r1 => ⟨m1, h1, ds, r, rh1, r1, q2, post_of rh1 ef fun v H' m' s2 rh2 rd => c v H' m' (s1.trans s2) rh2 rd⟩⟩
    · cases ef
  · cases ef
/-- a built-in function by its name -/
theorem s_biB (g : CG X) {bi : BI} {pf : Bool} {id : String} (hb : bi.plain = true) (hv : bi.val = .builtin id) (hbt : bootBuiltins x = some (.builtin id)) (hg : Gl X x) (hm : X.mg x = none) (ha : PA X (a :: es) (tA X.K fl)) (hn : x ≠ "__name__") (hdb : (x == ("__debug__" : Str)) = false)
    (he : starEach (a :: es) X.env = (false, eval a X.env) :: starEach es X.env) (hpl : (backTo pos (starEach es X.env)).any (·.1) = false) : PE X (.Call (.Name x p) (a :: es) [] pos) (tE X.K (aBi bi pf fl)) := by
  have z := call_D g bi hb
  rw [hv] at z
  exact (pe_callB z hg hm hbt ha hn hdb he hpl).imp fun σ H Q w => bi_core w
theorem s_biT (g : CG X) {bi : BI} {pf : Bool} {id : String} (hb : bi.plain = true) (hv : bi.val = .type id) (hbt : bootBuiltins x = some (.type id)) (hg : Gl X x) (hm : X.mg x = none) (ha : PA X (a :: es) (tA X.K fl)) (hn : x ≠ "__name__") (hdb : (x == ("__debug__" : Str)) = false)
    (he : starEach (a :: es) X.env = (false, eval a X.env) :: starEach es X.env) (hpl : (backTo pos (starEach es X.env)).any (·.1) = false) : PE X (.Call (.Name x p) (a :: es) [] pos) (tE X.K (aBi bi pf fl)) := by
  have z := call_D g bi hb
  rw [hv] at z
  exact (pe_callTy z hg hm hbt ha hn hdb he hpl).imp fun σ H Q w => bi_core w
/-- a function of another module that the top has brought in -/
theorem s_biM (g : CG X) {bi : BI} {pf : Bool} {id : String} (hb : bi.plain = true) (hv : bi.val = .builtin id) (hg : Gl X x) (hm : X.mg x = some (.builtin id)) (ha : PA X (a :: es) (tA X.K fl)) (hdb : (x == ("__debug__" : Str)) = false)
    (he : starEach (a :: es) X.env = (false, eval a X.env) :: starEach es X.env) (hpl : (backTo pos (starEach es X.env)).any (·.1) = false) : PE X (.Call (.Name x p) (a :: es) [] pos) (tE X.K (aBi bi pf fl)) := by
  have z := call_D g bi hb
  rw [hv] at z
  exact (pe_callBfun z hg hm ha hdb he hpl).imp fun σ H Q w => bi_core w
/-- isinstance(e, T) -/
def tyNames : List String := ["int", "bool", "tuple", "list", "str", "dict"]
theorem kitB_ok : ∀ c ∈ ["NoneType", "bool", "int", "str", "tuple", "list"], ∀ t ∈ tyNames, kitB c t = some (isiB c t) := by decide +kernel
theorem ty_of {K : PySem.W.Frag} {m : Mz} {H : Hp} {h : AH} {d : D} {v : V} (rh : RH K m H h) (rd : RD K m H d v) : ∃ c ∈ ["NoneType", "bool", "int", "str", "tuple", "list"], tyN h d = c ∧ TyX K H v (.type c) := by
  cases rd with
  | non => exact ⟨"NoneType", by simp, rfl, .base .non⟩
  | bl b => exact ⟨"bool", by simp, rfl, .base (.bl b)⟩
  | int i => exact ⟨"int", by simp, rfl, .base (.int i)⟩
  | str i => exact ⟨"str", by simp, rfl, .base (.str i)⟩
  | tup h1 r =>
    refine ⟨"tuple", by simp, rfl, ?_⟩
    rcases h1 with (h1 | ⟨o, h1⟩) | ⟨o, its, n, h1, h2, _⟩
    · exact .base (.tup h1)
    · exact .fTuple h1
    · exact .kTuple h1 h2
  | lst h1 n r => exact ⟨"list", by simp, rfl, .base (.lst h1)⟩
  | scr h1 =>
    refine ⟨"list", by simp, rfl, ?_⟩
    rcases h1 with ⟨o, h1⟩ | ⟨o, its, n, h1, h2, _⟩
    · exact .base (.frz h1)
    · exact .kList h1 h2
  | @ref n ad h1 =>
    have l : n < h.length := by rw [← rh.len]; exact (List.getElem?_eq_some_iff.mp h1).1
    have q := rh.ob n ad _ h1 (List.getElem?_eq_getElem l)
    have e : h[n]? = some h[n] := List.getElem?_eq_getElem l
    cases z : h[n] with
    | dic kvs => rw [z] at q; exact q.elim
    | lst ds =>
      rw [z] at q e
      obtain ⟨vs, h2, _⟩ := q
      exact ⟨"list", by simp, by simp [tyN, e], .base (.lst h2)⟩
theorem s_isi (g : CG X) {pf : Bool} {T : String} {y : Str} {p3 : Pos} (hT : T ∈ tyNames) (hbt : bootBuiltins y = some (.type T)) (hgy : Gl X y) (hmy : X.mg y = none) (hny : y ≠ "__name__") (hdy : (y == ("__debug__" : Str)) = false) (hg : Gl X "isinstance") (hm : X.mg "isinstance" = none) (ha : PE X a (tE X.K f))
    (he : starEach [a, .Name y p3] X.env = (false, eval a X.env) :: starEach [.Name y p3] X.env) :
    PE X (.Call (.Name "isinstance" p) [a, .Name y p3] [] pos) (tE X.K (aBi (.isi [T]) pf (aCons f fun _ h => some ([], h)))) := by
  have pt : PE X (.Name y p3) (tC (.ty T)) := pe_bltn hgy hmy hbt rfl hny hdy
  refine (pe_callB call_isi hg hm PyProof.Rows.boot_isinstance (pa_cons ha (pa_cons pt pa_nil (by rfl)) he) (by decide) (by decide) he (by rfl)).imp fun σ H Q ⟨m, e, h, d, h', re, rh, ef, c⟩ => ?_
  unfold aBi aCons at ef
  simp only at ef
  split at ef
  · rename_i ds h1 q1
    split at q1
    · rename_i x h2 q2
      cases q1
      split at ef
      · rename_i r q3
        cases q3
        refine ⟨m, e, h, x, h1, re, rh, q2, fun v H1 m1 s1 rh1 r1 => ?_⟩
        obtain ⟨cn, hc, e1, ty⟩ := ty_of rh1 r1
        refine ⟨v, .ty T, .type cn, .type T, isiB cn T, rfl, .ty T, ty, kit_ty (kitB_ok cn hc T hT), ?_⟩
        cases pf with
        | true => cases ef
        | false =>
          cases ef
          refine c _ H1 m1 s1 rh1 ?_
          rw [e1, List.any_cons, List.any_nil, Bool.or_false]
          exact .bl _
      · cases ef
    · cases q1
  · cases ef
theorem rgD_V {K : PySem.W.Frag} {m : Mz} {H : Hp} (lo : Int) (is : List Nat) : RDs K m H (is.map fun i => .int (lo + (i : Nat))) (is.map fun i => V.int (lo + (i : Nat))) := by
  induction is with
  | nil => exact .nil
  | cons i is ih => exact .cons (.int _) ih
/-- list(range(e)), list(range(a, b)) -/
theorem s_lrg1 (g : CG X) {pf : Bool} {pp pr : Pos} (hg : Gl X "list") (hm : X.mg "list" = none) (hgr : Gl X "range") (hmr : X.mg "range" = none) (ha : PE X a (tE X.K f)) (na : starEach [a] X.env = (false, eval a X.env) :: starEach [] X.env) :
    PE X (.Call (.Name "list" p) [.Call (.Name "range" p2) [a] [] pr] [] pos) (tE X.K (aBi .listRange pf (aCons f fun _ h => some ([], h)))) := by
  refine (pe_listRg g.calm hg hm (prg_1 hgr hmr ha na) (by rfl)).imp fun σ H Q ⟨m, e, h, d, h', re, rh, ef, c⟩ => ?_
  unfold aBi aCons at ef
  simp only at ef
  split at ef
  · rename_i ds h1 q1
    split at q1
    · rename_i x h2 q2
      cases q1
      unfold dBI dB1 at ef
      simp only at ef
      split at ef
      · rename_i r q3
        split at q3
        · split at q3
          · rename_i n hn
            cases q3
            refine ⟨m, e, h, _, h1, re, rh, q2, fun v H1 m1 s1 rh1 r1 => ?_⟩
            cases r1
            have hm : n ≤ 1000000 := hn.2
            refine ⟨n, rfl, ⟨by omega, by omega, by omega, by omega, by omega⟩, fun q hq => ?_⟩
            refine post_of rh1 ef (fun v H' m' s2 rh2 rd => c v H' m' (s1.trans s2) rh2 rd) q _ hq ?_
            have z := rgD_V (K := X.K) (m := m1) (H := H1) 0 (List.range n.toNat)
            unfold rgV
            rw [Int.sub_zero]
            exact z
          · cases q3
        · cases q3
      · cases ef
    · cases q1
  · cases ef
/-! ### methods of lists of the store -/
def MT.nm : MT → Str
  | .append => "append" | .insert => "insert" | .extend => "extend" | .pop => "pop" | .popAt => "pop" | .index => "index" | .count => "count" | .join => "join"
def MT.id : MT → String
  | .append => "list.append" | .insert => "list.insert" | .extend => "list.extend" | .pop => "list.pop" | .popAt => "list.pop" | .index => "list.index" | .count => "list.count" | .join => "str.join"
def rDM (K : PySem.W.Frag) (mt : MT) : V → List V → Hp → VK → Prop := fun x vs H Q => ∃ m h n ds d h', RH K m H h ∧ RD K m H (.ref n) x ∧ RDs K m H ds vs ∧ dMeth h mt (.ref n) ds = some (d, h') ∧
  ∀ v H', Stp m H m H' → RH K m H' h' → RD K m H' d v → Q v H'
theorem meth_D (mt : MT) : MtR X mt.id (rDM X.K mt) := by
  intro pins s σ H x vs v us Q I rx rv hh
  obtain ⟨m, h, n, ds, d, h', rh, rn, rd, e, c⟩ := hh
  cases rn with
  | @ref n ad h1 =>
    unfold dMeth at e
    simp only at e
    split at e
    · rename_i xs q
      obtain ⟨ws, hH, rs⟩ := rh.get h1 q
      have hl := rs.length
      split at e
      · rename_i d0 ys q2
        simp only [Option.some.injEq, Prod.mk.injEq] at e
        obtain ⟨rfl, rfl⟩ := e
        -- the list behind the call
        have fin : ∀ {ys' : List V} {w : V}, RDs X.K m H ys ys' → RD X.K m H d0 w → Q w (upd H ad (.lst ys')) := fun {ys' w} r1 r2 =>
          c w _ (.write rh h1 hH) (rh.write h1 hH r1) (r2.mono (.write rh h1 hH))
        cases mt with
        | append =>
          unfold dMt at q2
          simp only at q2
          split at q2
          · split at q2
            · rename_i hlt
              cases q2
              cases rd with
              | cons ra rn =>
                cases rn
                exact mt_append pins s σ H _ _ v us Q I rx rv ⟨ad, ws, _, rfl, rfl, hH, most_lt (by omega), fin (rs.append (.cons ra .nil)) .non⟩
            · cases q2
          · cases q2
        | insert =>
          unfold dMt at q2
          simp only at q2
          split at q2
          · split at q2
            · rename_i i0 d1 hlt
              obtain ⟨l1, l2, l3⟩ := hlt
              have l2' : i0 ≤ 1000000 := l2
              cases q2
              cases rd with
              | cons ra rn =>
                cases rn with
                | cons rb rn =>
                  cases rn
                  cases ra
                  exact mt_insert pins s σ H _ _ v us Q I rx rv ⟨ad, ws, _, _, rfl, rfl, hH, most_lt (by omega), l1, by omega, fin (((rs.take _).append (.cons rb .nil)).append (rs.drop _)) .non⟩
            · cases q2
          · cases q2
        | extend =>
          unfold dMt at q2
          simp only at q2
          split at q2
          · split at q2
            · rename_i b0 zs q3
              split at q2
              · rename_i hlt
                cases q2
                cases rd with
                | cons ra rn =>
                  cases rn
                  obtain ⟨p2, us2, rfl, hb, rz⟩ := lst_at rh ra q3
                  have hz := rz.length
                  exact mt_extend pins s σ H _ _ v us Q I rx rv ⟨ad, p2, ws, us2, rfl, rfl, hH, hb, most_le (by omega), fin (rs.append rz) .non⟩
              · cases q2
            · cases q2
          · cases q2
        | pop =>
          unfold dMt at q2
          simp only at q2
          split at q2
          · split at q2
            · rename_i y q3
              cases q2
              cases rd
              obtain ⟨w, hw, rw'⟩ := rs.get q3
              refine mt_pop pins s σ H _ _ v us Q I rx rv ⟨ad, ws, w, rfl, rfl, hH, by rw [← hl]; exact hw, fin ?_ rw'⟩
              rw [List.dropLast_eq_take, List.dropLast_eq_take, hl]
              exact rs.take _
            · cases q2
          · cases q2
        | _ => cases q2
      · cases e
    · cases e
theorem meth_core {K : PySem.W.Frag} {mt : MT} {T : String} {σ : L2.St} {H : Hp} {Q : VK} (hT : T = "list") (w : tE K (aMeth mt f fl) σ H Q) : tBM K T (rDM K mt) (tE K f) (tA K fl) σ H Q := by
  obtain ⟨m, e, h, d, h', re, rh, ef, c⟩ := w
  unfold aMeth at ef
  split at ef
  · rename_i x h1 q1
    split at ef
    · rename_i ds h2 q2
      refine ⟨m, e, h, x, h1, re, rh, q1, fun v1 H1 m1 s1 rh1 r1 => ?_⟩
      cases x with
      | ref n =>
        have q3 := ef
        unfold dMeth at q3
        simp only at q3
        split at q3
        · rename_i xs q4
          have hm1 : ∃ a, v1 = V.ref a ∧ m1.m[n]? = some a := by
            cases r1 with
            | ref h0 => exact ⟨_, rfl, h0⟩
          obtain ⟨ad, rfl, hn⟩ := hm1
          have l1 : n < h1.length := by rw [← rh1.len]; exact (List.getElem?_eq_some_iff.mp hn).1
          have q5 := rh1.ob n ad _ hn (List.getElem?_eq_getElem l1)
          refine ⟨.inl ⟨hT, ?_⟩, ⟨m1, e, h1, ds, h2, re.mono s1, rh1, q2, fun vs H2 m2 s2 rh2 r2 => ⟨m2, h2, n, ds, d, h', rh2, .ref (s2.pre _ _ hn), r2, ef, fun v H' s3 rh3 rd => c v H' m2 ((s1.trans s2).trans s3) rh3 rd⟩⟩⟩
          cases z : h1[n] with
          | lst us => rw [z] at q5; obtain ⟨vs, h3, _⟩ := q5; exact ⟨vs, .of h3⟩
          | dic kvs => rw [z] at q5; exact q5.elim
        · cases q3
      | _ => cases ef
    · cases ef
  · cases ef
theorem s_meth {mt : MT} {apos : Pos} (slot : Slot "list" mt.nm mt.id) (hty : typeOf (.builtin mt.id) = pure (.type "method_descriptor")) (ho : PE X b (tE X.K f)) (ha : PA X (a :: es) (tA X.K fl)) (hbase : attributeBase b mt.nm X.env (eval b X.env) = eval b X.env)
    (hfew : ((backTo pos (starEach (a :: es) X.env)).all (fun x => !x.1) && (backToKw pos (keywordEach [] X.env)).all (fun x => x.1.isSome)
      && decide ((a :: es).length + ([] : List Keyword).length + (if ([] : List Keyword).isEmpty then 0 else 1) < 30)) = true)
    (hline : (apos.endLine == pos.line) = true) (hs : starEach (a :: es) X.env = (false, eval a X.env) :: starEach es X.env) (hpl : (backTo pos (starEach es X.env)).any (·.1) = false) :
    PE X (.Call (.Attribute b mt.nm apos) (a :: es) [] pos) (tE X.K (aMeth mt f fl)) :=
  (pe_bm PySem.F.plainAttrs_list slot hty (meth_D mt) ho ha hbase hfew hline hs hpl).imp fun σ H Q w => meth_core rfl w
theorem s_meth0 {mt : MT} {apos : Pos} (slot : Slot "list" mt.nm mt.id) (hty : typeOf (.builtin mt.id) = pure (.type "method_descriptor")) (ho : PE X b (tE X.K f)) (hbase : attributeBase b mt.nm X.env (eval b X.env) = eval b X.env)
    (hline : (apos.endLine == pos.line) = true) : PE X (.Call (.Attribute b mt.nm apos) [] [] pos) (tE X.K (aMeth mt f fun _ h => some ([], h))) :=
  (pe_bm0 PySem.F.plainAttrs_list slot hty (meth_D mt) ho hbase hline).imp fun σ H Q w => by
    obtain ⟨m, e, h, x, h1, re, rh, q1, c⟩ := meth_core (K := X.K) (T := "list") rfl w
    refine ⟨m, e, h, x, h1, re, rh, q1, fun v1 H1 m1 s1 rh1 r1 => ?_⟩
    obtain ⟨t, m2, e2, h2, ds, h3, re2, rh2, q2, c2⟩ := c v1 H1 m1 s1 rh1 r1
    cases q2
    exact ⟨t, c2 [] H1 m2 .refl rh2 .nil⟩
end
end Ev
/-! Ev part G0: zip of lists and tuples in any mix. -/
namespace Ev
open PySem PySem.Spec PyProof.Rows L2

/-- κ: a list, else a tuple -/
def SqK (κ : Bool) (K : PySem.W.Frag) (H : Hp) (a : Addr) (xs : List V) : Prop := match κ with | true => SqL K H a xs | false => SqT K H a xs
def ItK (κ : Bool) (h : Heap) (it a : Addr) (i : Nat) : Prop := match κ with | true => h.IsListIter it a i | false => h.IsTupleIter it a i
def IsK (κ : Bool) (h : Heap) (a : Addr) (its : Array Value) : Prop := match κ with | true => h.IsList a its | false => h.IsTuple a its
theorem ItK.at_ {κ : Bool} {h h' : Heap} {it a : Addr} {i : Nat} (q : ItK κ h it a i) (k : ∀ o, h.get? it = some o → h'.get? it = some o) : ItK κ h' it a i := by
  cases κ <;> exact q.at k
theorem ItK.ob {κ : Bool} {h : Heap} {it a : Addr} {i : Nat} (q : ItK κ h it a i) : ∃ o, h.get? it = some o ∧ ∀ v, o.data ≠ .cell v := by
  cases κ <;> (obtain ⟨o, e, _, d⟩ := q; exact ⟨o, e, fun v z => by rw [d] at z; cases z⟩)
theorem draws_k (κ : Bool) {prog : Program} {w : World} {A : Around} (hh : A.handled = none) (it l : Addr) (hne : l ≠ it) (items : Array Value) :
    Draws prog w A it [it, l] items.size (fun i v => items[i]? = some v) (fun i h => ItK κ h it l i ∧ IsK κ h l items) := by
  cases κ
  · exact Draws.tuple hh it l hne items
  · exact Draws.list hh it l hne items
theorem begins_k (κ : Bool) (l : Addr) (items : Array Value) : ∃ o, Begins (.ref l) o (fun h => IsK κ h l items) ∧ ∀ h' b, h'.get? b = some o → ItK κ h' b l 0 := by
  cases κ
  · exact ⟨_, begins_tuple l items, fun h' b e => ⟨_, e, rfl, rfl⟩⟩
  · exact ⟨_, begins_list l items, fun h' b e => ⟨_, e, rfl, rfl⟩⟩
section
variable {X : Cx} {pins : List (Addr × Obj)} {σ : L2.St} {H : Hp} {s : Shared} {a : Addr} {xs ys : List V}
theorem seqK {κ : Bool} (I : Inv X pins σ H s) (h : SqK κ X.K H a xs) : ∃ its : List Value, Vals xs its ∧ IsK κ s.heap a its.toArray ∧ a < s.heap.objs.size := by
  cases κ
  · obtain ⟨its, r, p, _⟩ := I.tuple h
    obtain ⟨o, e, _⟩ := id p
    exact ⟨its, r, p, Heap.lt_size e⟩
  · obtain ⟨its, r, p, _⟩ := I.list h
    exact ⟨its, r, p.isList, p.lt⟩
theorem injK {κ : Bool} (I : Inv X pins σ H s) (h : SqK κ X.K H a xs) (h' : SqK κ X.K H a ys) : xs = ys := by
  cases κ
  · exact I.tuple_inj h h'
  · exact I.list_inj h h'
end
/-- what stands at a and b, turn by turn, in new pairs -/
def Itm (κ1 κ2 : Bool) (K : PySem.W.Frag) (a b : Addr) : It where
  go := fun i H => ∃ (xs ys : List V) (x y : V), SqK κ1 K H a xs ∧ SqK κ2 K H b ys ∧ xs[i]? = some x ∧ ys[i]? = some y
  yld := fun i H v H' => ∃ (T : Addr) (x y : V), v = .ref T ∧ H T = none ∧ H' = upd H T (.tup [x, y]) ∧ (∀ xs, SqK κ1 K H a xs → xs[i]? = some x) ∧ (∀ ys, SqK κ2 K H b ys → ys[i]? = some y)
  stop := fun i H => ∃ (xs ys : List V), SqK κ1 K H a xs ∧ SqK κ2 K H b ys ∧ i ≤ xs.length ∧ i ≤ ys.length ∧ (i = xs.length ∨ i = ys.length)
def tnM (κ1 κ2 : Bool) (a b z TI TO i1 i2 : Addr) (i : Nat) (h : Heap) : Prop :=
  IsZip h z TI TO .none ∧ IsTupOf2 h TI (.ref i1) (.ref i2) ∧ (∃ x y, IsTupOf2 h TO x y) ∧ ItK κ1 h i1 a i ∧ ItK κ2 h i2 b i
theorem turn_m {P : Program} {w : World} {K : PySem.W.Frag} {elts : List Expr} {kk : Nat} {tpos : Pos} {κ1 κ2 : Bool} {a b z TI TO i1 i2 : Addr} (S : ZipSep2 z TI TO i1 i2 [i1, a] [i2, b]) (na : a ≠ i1) (nb : b ≠ i2) :
    Turn P w K (.Tuple elts kk tpos) (Itm κ1 κ2 K a b) [z, TI, TO, i1, i2] z (tnM κ1 κ2 a b z TI TO i1 i2) where
  mem := List.mem_cons_self
  obj := fun i h st c hc => by
    obtain ⟨tz, tI, ⟨x, y, tO⟩, t1, t2⟩ := st
    simp only [List.mem_cons, List.not_mem_nil, or_false] at hc
    rcases hc with rfl | rfl | rfl | rfl | rfl
    · exact ⟨_, tz, fun v q => by cases q⟩
    · exact ⟨_, tI, fun v q => by cases q⟩
    · exact ⟨_, tO, fun v q => by cases q⟩
    · exact t1.ob
    · exact t2.ob
  keep := fun i h h' st k => by
    obtain ⟨tz, tI, ⟨x, y, tO⟩, t1, t2⟩ := st
    have m : ∀ c ∈ [z, TI, TO, i1, i2], ∀ o, h.get? c = some o → h'.get? c = some o := k
    exact ⟨m z (by simp) _ tz, m TI (by simp) _ tI, ⟨x, y, m TO (by simp) _ tO⟩, t1.at_ (m i1 (by simp)), t2.at_ (m i2 (by simp))⟩
  self := fun A i s Q E st q => wpAny_pyIter_zip st.1 q
  item := by
    intro X eP ew eK calm i pins s σ H E I fp st go
    subst eP ew eK
    obtain ⟨tz, tI, ⟨x0, y0, tO⟩, t1, t2⟩ := st
    obtain ⟨xs, ys, x, y, qa, qb, hx, hy⟩ := go
    obtain ⟨ia, ra, pa, _⟩ := seqK I qa
    obtain ⟨ib, rb, pb, _⟩ := seqK I qb
    obtain ⟨u, hu, ru⟩ := ra.get hx
    obtain ⟨v, hv, rv⟩ := rb.get hy
    have la : i < ia.toArray.size := by rw [List.size_toArray]; exact (List.getElem?_eq_some_iff.mp hu).1
    have lb : i < ib.toArray.size := by rw [List.size_toArray]; exact (List.getElem?_eq_some_iff.mp hv).1
    have zl : z < s.heap.objs.size := Heap.lt_size tz
    have hh : X.A.in1.handled = none := I.ok.hd calm
    refine wpAny_pyNext_zipD2_item S (draws_k κ1 hh i1 a na ia.toArray) (draws_k κ2 hh i2 b nb ib.toArray) tz tI tO ⟨t1, pa⟩ ⟨t2, pb⟩ la lb fun x1 x2 h1 tk e1 e2 z1 o1 st1 st2 T1 n1 k1 => ?_
    have ex1 : x1 = u := by
      rw [List.getElem?_toArray, hu] at e1
      exact (Option.some.inj e1).symm
    have ex2 : x2 = v := by
      rw [List.getElem?_toArray, hv] at e2
      exact (Option.some.inj e2).symm
    subst ex1
    subst ex2
    refine ⟨_, rfl, wpAny_letOwnedTupleGo_zip (s := { s with heap := h1, toks := tk }) z1 fun h2 z2 sb => ?_⟩
    have keep2 : ∀ c o, c ≠ z → h1.get? c = some o → h2.get? c = some o := fun c o n e => (sb.2 c n).trans e
    have T2 := keep2 _ _ (Nat.ne_of_gt zl) T1
    have ok : ObjOk X.prog X.w (upd H s.heap.objs.size (.tup [x, y])) h2 s.heap.objs.size (.tup [x, y]) := ⟨by show 2 ≤ sizeLine; decide, [x1, x2], .cons ru (.cons rv .nil), ⟨_, T2, rfl, _, rfl⟩⟩
    have J : Inv X pins σ (upd H s.heap.objs.size (.tup [x, y])) { s with heap := h2, toks := tk } :=
      I.turnedNew (ch := [z, TI, TO, i1, i2]) (fun c o hb e => by
        simp only [List.mem_cons, List.not_mem_nil, or_false, not_or] at hb
        exact keep2 c o hb.1 (k1 c o hb.1 hb.2.2.1 hb.2.2.2.1 hb.2.2.2.2 e)) fp (Nat.le_refl _) ok
    refine ⟨.ref s.heap.objs.size, _, J, rfl, ⟨_, x, y, rfl, I.hok.fresh (Nat.le_refl _), rfl, fun l hl => by rw [injK I hl qa]; exact hx, fun l hl => by rw [injK I hl qb]; exact hy⟩, ⟨z2, ?_, ⟨_, _, keep2 _ _ S.TOz o1⟩, st1.1.at_ fun o e => keep2 _ o (Ne.symm S.zi1) e, st2.1.at_ fun o e => keep2 _ o (Ne.symm S.zi2) e⟩, fun c hc => ?_⟩
    · exact keep2 _ _ S.TIz (k1 _ _ S.TIz S.TITO S.TIi1 S.TIi2 tI)
    · have lt : c < s.heap.objs.size := by
        simp only [List.mem_cons, List.not_mem_nil, or_false] at hc
        rcases hc with rfl | rfl | rfl | rfl | rfl
        · exact zl
        · exact Heap.lt_size tI
        · exact Heap.lt_size tO
        · obtain ⟨_, e, _⟩ := t1.ob; exact Heap.lt_size e
        · obtain ⟨_, e, _⟩ := t2.ob; exact Heap.lt_size e
      rw [upd_ne (Nat.ne_of_lt lt)]
      exact (fp c hc).1
  done := by
    intro X eP ew eK calm i pins s σ H E I fp st stop
    subst eP ew eK
    obtain ⟨tz, tI, ⟨x0, y0, tO⟩, t1, t2⟩ := st
    obtain ⟨xs, ys, qa, qb, l1, l2, l3⟩ := stop
    obtain ⟨ia, ra, pa, _⟩ := seqK I qa
    obtain ⟨ib, rb, pb, _⟩ := seqK I qb
    rw [ra.length, ← List.size_toArray] at l1 l3
    rw [rb.length, ← List.size_toArray] at l2 l3
    have hh : X.A.in1.handled = none := I.ok.hd calm
    refine wpAny_pyNext_zipD2_end S (draws_k κ1 hh i1 a na ia.toArray) (draws_k κ2 hh i2 b nb ib.toArray) tz tI tO ⟨t1, pa⟩ ⟨t2, pb⟩ l1 l2 l3 fun h1 tk k1 => ?_
    exact ⟨rfl, I.turnedL (ch := [z, TI, TO, i1, i2]) (fun c o hb e => by
      simp only [List.mem_cons, List.not_mem_nil, or_false, not_or] at hb
      exact k1 c o hb.1 hb.2.2.1 hb.2.2.2.1 hb.2.2.2.2 e) fp⟩
def iZipM (K : PySem.W.Frag) (ta : TA) : TI := fun σ H R => ta σ H fun vs H1 => ∃ (κ1 κ2 : Bool) (a b : Addr) (xs ys : List V), vs = [.ref a, .ref b] ∧ SqK κ1 K H1 a xs ∧ SqK κ2 K H1 b ys ∧ R (Itm κ1 κ2 K a b) H1
theorem pi_zipM {X : Cx} {e e2 : Expr} {ta : TA} {p pos tpos : Pos} {elts : List Expr} {kk : Nat} (hg : Gl X "zip") (hm : X.mg "zip" = none) (ha : PA X [e, e2] ta) (hs : starEach [e, e2] X.env = (false, eval e X.env) :: starEach [e2] X.env)
    (hpl : (backTo pos (starEach [e2] X.env)).any (·.1) = false) : L2.PI X (.Tuple elts kk tpos) (.Call (.Name "zip" p) [e, e2] [] pos) (iZipM X.K ta) := ⟨fun pins s σ H R I h => by
  refine Call_ (ld_blt I hg hm PyProof.Rows.boot_zip (PyProof.Rows.callWith_type1 (thn (ha.run pos pins s σ H _ I h) fun us s1 back => ?_) hs hpl))
  obtain ⟨vs, H1, I1, r1, κ1, κ2, a, b, xs, ys, rfl, qa, qb, q⟩ := back
  match r1 with
  | .cons r (.cons r' .nil) =>
    cases r
    cases r'
    obtain ⟨ia, ra, pa, la⟩ := seqK I1 qa
    obtain ⟨ib, rb, pb, lb⟩ := seqK I1 qb
    obtain ⟨o1, B1, b1⟩ := begins_k κ1 a ia.toArray
    obtain ⟨o2, B2, b2⟩ := begins_k κ2 b ib.toArray
    refine zip_begins2 B1 B2 pa pb fun h' z1 t1 t2 g1 g2 n1 k1 => wpAny_pyIter_zip z1 ?_
    have I2 : Inv X pins σ H1 { s1 with heap := h', toks := s1.toks } := I1.kept k1
    have sep := zip_sep2 (N := s1.heap.objs.size) (fp1 := [a]) (fp2 := [b]) (fun c hc => by rw [List.mem_singleton.mp hc]; exact la) (fun c hc => by rw [List.mem_singleton.mp hc]; exact lb)
    refine ⟨s1.heap.objs.size + 4, [s1.heap.objs.size + 4, s1.heap.objs.size + 2, s1.heap.objs.size + 3, s1.heap.objs.size, s1.heap.objs.size + 1], _, _, H1, rfl, I2, turn_m sep (Nat.ne_of_lt la) (Nat.ne_of_lt (Nat.lt_of_lt_of_le lb (Nat.le_succ _))),
      ⟨z1, t1, ⟨_, _, t2⟩, b1 _ _ g1, b2 _ _ g2⟩, fun c hc => ?_, q⟩
    have le : s1.heap.objs.size ≤ c := by
      simp only [List.mem_cons, List.not_mem_nil, or_false] at hc
      rcases hc with rfl | rfl | rfl | rfl | rfl
      · exact Nat.le_add_right _ 4
      · exact Nat.le_add_right _ 2
      · exact Nat.le_add_right _ 3
      · exact Nat.le_refl _
      · exact Nat.le_add_right _ 1
    exact I1.fpOk le (I1.hok.fresh le)⟩
end Ev
/-! Ev part G: what is walked, targets, comprehensions. -/
namespace Ev
open PySem PySem.Spec PyProof.Rows L2

/-- at every later state in which the walked list stands, the iterator gives these items -/
def JOk (K : PySem.W.Frag) (m : Mz) (H : Hp) (J : It) (ds : List D) (ck : Ck) : Prop :=
  ∀ m' H' h', Wk m H m' H' → RH K m' H' h' → ckOk ck h' →
    (∀ i d, ds[i]? = some d → J.go i H' ∧ ∀ x H'', J.yld i H' x H'' → Same H' H'' ∧ RD K m' H'' d x) ∧ ∀ i, ds.length ≤ i → i ≤ ds.length → J.stop i H'
def tI (K : PySem.W.Frag) (f : SI) : TI := fun σ H R => ∃ m e h ds ck h', RE K m H σ e ∧ RH K m H h ∧ f e h = some (ds, ck, h') ∧
  ∀ m' H' J, Stp m H m' H' → RH K m' H' h' → JOk K m' H' J ds ck → R J H'
theorem _root_.L2.PI.imp {X : Cx} {tg iter : Expr} {t t' : TI} (h : L2.PI X tg iter t) (i : ∀ σ H R, t' σ H R → t σ H R) : L2.PI X tg iter t' := ⟨fun pins s σ H R I w => h.run pins s σ H R I (i σ H R w)⟩
section
variable {K : PySem.W.Frag} {m : Mz} {H : Hp} {a b : Addr} {vs us : List V} {ds es : List D}
theorem JOk.mono {m' : Mz} {H' : Hp} {J : It} {ck : Ck} (j : JOk K m H J ds ck) (s : Wk m H m' H') : JOk K m' H' J ds ck := fun m2 H2 h2 s2 => j m2 H2 h2 (s.trans s2)
theorem j_lst (h : H a = some (.lst vs)) (n : m.out a) (r : RDs K m H ds vs) : JOk K m H (Itl K a) ds none := fun m' H' h' s rh _ => by
  have q := (s.keep a _ n h).1
  refine ⟨fun i d e => ?_, fun i e _ => ⟨vs, .of q, by rw [← r.length]; exact e⟩⟩
  obtain ⟨v, e1, rd⟩ := r.get e
  refine ⟨⟨vs, v, .of q, e1⟩, fun x H'' y => ?_⟩
  obtain ⟨rfl, y⟩ := y
  have z := y vs (.of q)
  rw [e1] at z
  cases z
  exact ⟨Same.refl _, rd.wk s⟩
theorem j_scr (h : SqF K H a vs) (r : RDs K m H ds vs) : JOk K m H (Itl K a) ds none := fun m' H' h' s rh _ => by
  have q := (s.sqF h).sq
  refine ⟨fun i d e => ?_, fun i e _ => ⟨vs, q, by rw [← r.length]; exact e⟩⟩
  obtain ⟨v, e1, rd⟩ := r.get e
  refine ⟨⟨vs, v, q, e1⟩, fun x H'' y => ?_⟩
  obtain ⟨rfl, y⟩ := y
  have z := y vs q
  rw [e1] at z
  cases z
  exact ⟨Same.refl _, rd.wk s⟩
theorem j_ref {n : Nat} (h : m.m[n]? = some a) : JOk K m H (Itl K a) ds (some (n, ds)) := fun m' H' h' s rh ck => by
  obtain ⟨ws, q, r⟩ := rh.get (s.pre _ _ h) ck
  refine ⟨fun i d e => ?_, fun i e _ => ⟨ws, .of q, by rw [← r.length]; exact e⟩⟩
  obtain ⟨v, e1, rd⟩ := r.get e
  refine ⟨⟨ws, v, .of q, e1⟩, fun x H'' y => ?_⟩
  obtain ⟨rfl, y⟩ := y
  have z := y ws (.of q)
  rw [e1] at z
  cases z
  exact ⟨Same.refl _, rd⟩
theorem j_tup (h : SqT K H a vs) (r : RDs K m H ds vs) : JOk K m H (Itt K a) ds none := fun m' H' h' s rh _ => by
  have q := s.sqT h
  refine ⟨fun i d e => ?_, fun i e _ => ⟨vs, q, by rw [← r.length]; exact e⟩⟩
  obtain ⟨v, e1, rd⟩ := r.get e
  refine ⟨⟨vs, v, q, e1⟩, fun x H'' y => ?_⟩
  obtain ⟨rfl, y⟩ := y
  have z := y vs q
  rw [e1] at z
  cases z
  exact ⟨Same.refl _, rd.wk s⟩
theorem rngD_at {lo : Int} {n i : Nat} {d : D} (e : (rngD lo n)[i]? = some d) : i < n ∧ d = .int (lo + (i : Nat)) := by
  unfold rngD at e
  rw [List.getElem?_map] at e
  cases q : (List.range n)[i]? with
  | none => rw [q] at e; cases e
  | some j =>
    rw [q] at e
    have hl : i < n := by
      have := (List.getElem?_eq_some_iff.mp q).1
      simpa using this
    have hj : j = i := by
      have := (List.getElem?_eq_some_iff.mp q).2
      simpa using this.symm
    subst hj
    exact ⟨hl, (Option.some.inj e).symm⟩
theorem j_rng (lo : Int) (n : Nat) : JOk K m H (Itr lo n) (rngD lo n) none := fun m' H' h' s rh _ => by
  refine ⟨fun i d e => ?_, fun i e _ => ?_⟩
  · obtain ⟨hl, rfl⟩ := rngD_at e
    refine ⟨hl, fun x H'' y => ?_⟩
    obtain ⟨rfl, rfl⟩ := y
    exact ⟨Same.refl _, .int _⟩
  · unfold rngD at e
    rw [List.length_map, List.length_range] at e
    exact e
theorem enumD_at {i : Nat} {d : D} (e : (enumD ds)[i]? = some d) : ∃ x, ds[i]? = some x ∧ d = .tup [.int (i : Nat), x] := by
  unfold enumD at e
  rw [List.getElem?_map, List.getElem?_zipIdx] at e
  cases q : ds[i]? with
  | none => rw [q] at e; cases e
  | some x =>
    rw [q] at e
    refine ⟨x, rfl, ?_⟩
    have := (Option.some.inj e).symm
    simpa using this
theorem enumD_length : (enumD ds).length = ds.length := by unfold enumD; rw [List.length_map, List.length_zipIdx]
theorem j_enum (h : H a = some (.lst vs)) (n : m.out a) (r : RDs K m H ds vs) : JOk K m H (Ite K a) (enumD ds) none := fun m' H' h' s rh _ => by
  have q := (s.keep a _ n h).1
  refine ⟨fun i d e => ?_, fun i e _ => ⟨vs, .of q, by rw [← r.length, ← enumD_length (ds := ds)]; exact e⟩⟩
  obtain ⟨x, e1, rfl⟩ := enumD_at e
  obtain ⟨v, e2, rd⟩ := r.get e1
  refine ⟨⟨vs, v, .of q, e2⟩, fun y H'' w => ?_⟩
  obtain ⟨T, x', rfl, hT, rfl, w⟩ := w
  have z := w vs (.of q)
  rw [e2] at z
  cases z
  exact ⟨nw hT, .tup (.of upd_same) (.cons (.int _) (.cons ((rd.wk s).mono (.new hT)) .nil))⟩
theorem j_enumR {n : Nat} (h : m.m[n]? = some a) : JOk K m H (Ite K a) (enumD ds) (some (n, ds)) := fun m' H' h' s rh ck => by
  obtain ⟨ws, q, r⟩ := rh.get (s.pre _ _ h) ck
  refine ⟨fun i d e => ?_, fun i e _ => ⟨ws, .of q, by rw [← r.length, ← enumD_length (ds := ds)]; exact e⟩⟩
  obtain ⟨x, e1, rfl⟩ := enumD_at e
  obtain ⟨v, e2, rd⟩ := r.get e1
  refine ⟨⟨ws, v, .of q, e2⟩, fun y H'' w => ?_⟩
  obtain ⟨T, x', rfl, hT, rfl, w⟩ := w
  have z := w ws (.of q)
  rw [e2] at z
  cases z
  exact ⟨nw hT, .tup (.of upd_same) (.cons (.int _) (.cons (rd.mono (.new hT)) .nil))⟩
theorem zipD_at {i : Nat} {d : D} (e : (zipD ds es)[i]? = some d) : ∃ x y, ds[i]? = some x ∧ es[i]? = some y ∧ d = .tup [x, y] := by
  unfold zipD at e
  rw [List.getElem?_map] at e
  cases q : (ds.zip es)[i]? with
  | none => rw [q] at e; cases e
  | some p =>
    rw [q] at e
    rw [List.getElem?_zip_eq_some] at q
    exact ⟨p.1, p.2, q.1, q.2, (Option.some.inj e).symm⟩
theorem zipD_length : (zipD ds es).length = min ds.length es.length := by unfold zipD; rw [List.length_map, List.length_zip]
/-- a list or a tuple that stays as it is -/
def Stq (κ : Bool) (K : PySem.W.Frag) (m : Mz) (H : Hp) (a : Addr) (vs : List V) : Prop := ∀ m' H', Wk m H m' H' → SqK κ K H' a vs
theorem stq_of {x : D} {v : V} (r : RD K m H x v) (e : zsrc x = some ds) : ∃ κ a vs, v = .ref a ∧ Stq κ K m H a vs ∧ RDs K m H ds vs := by
  cases r with
  | tup h r => cases e; exact ⟨false, _, _, rfl, fun m' H' s => s.sqT h, r⟩
  | lst h n r => cases e; exact ⟨true, _, _, rfl, fun m' H' s => .of (s.keep _ _ n h).1, r⟩
  | scr h => cases e; exact ⟨true, _, _, rfl, fun m' H' s => (s.sqF h).sq, RDs.ints _⟩
  | _ => cases e
theorem j_zipM {κ1 κ2 : Bool} (h : Stq κ1 K m H a vs) (h2 : Stq κ2 K m H b us) (r : RDs K m H ds vs) (r2 : RDs K m H es us) : JOk K m H (Itm κ1 κ2 K a b) (zipD ds es) none := fun m' H' h' s rh _ => by
  have q := h _ _ s
  have q2 := h2 _ _ s
  have l1 := r.length
  have l2 := r2.length
  refine ⟨fun i d e => ?_, fun i e e3 => ⟨vs, us, q, q2, ?_⟩⟩
  · obtain ⟨x, y, e1, e2, rfl⟩ := zipD_at e
    obtain ⟨v, e3, rd⟩ := r.get e1
    obtain ⟨u, e4, rd2⟩ := r2.get e2
    refine ⟨⟨vs, us, v, u, q, q2, e3, e4⟩, fun x' H'' w => ?_⟩
    obtain ⟨T, x1, y1, rfl, hT, rfl, w1, w2⟩ := w
    have z := w1 vs q
    have z2 := w2 us q2
    rw [e3] at z
    rw [e4] at z2
    cases z
    cases z2
    exact ⟨nw hT, .tup (.of upd_same) (.cons ((rd.wk s).mono (.new hT)) (.cons ((rd2.wk s).mono (.new hT)) .nil))⟩
  · rw [zipD_length] at e e3
    omega
end
section
variable {X : Cx} {tg a b c : Expr} {es : List Expr} {pos p p2 : Pos} {f f1 f2 f3 : SE}
/-- a list or a tuple is walked -/
theorem pi_any {l : Expr} {tl : TE} (hl : PE X l tl) : L2.PI X tg l (fun σ H R => tl σ H fun x H1 => ∃ a, x = .ref a ∧ ((∃ xs, SqL X.K H1 a xs) ∧ R (Itl X.K a) H1 ∨ (∃ xs, SqT X.K H1 a xs) ∧ R (Itt X.K a) H1)) := by
  refine ⟨fun pins s σ H R I h => ?_⟩
  refine thn (hl.run pins s σ H _ I h) fun v s1 ⟨x, H1, I1, r1, q1⟩ => ?_
  obtain ⟨a, e, q⟩ := q1
  subst e
  cases r1
  rcases q with ⟨⟨xs, hq⟩, q⟩ | ⟨⟨xs, hq⟩, q⟩
  · obtain ⟨its, rv, p, hz⟩ := I1.list hq
    refine wpAny_pyIter_list p.isList ?_
    refine ⟨s1.heap.objs.size, [s1.heap.objs.size], _, _, H1, rfl, I1.kept (t' := s1.toks) fun b o e => Heap.get?_push_of_some _ e, turn_list a _, ⟨_, Heap.get?_push_size _ rfl, rfl, rfl⟩, fun b hb => ?_, q⟩
    have e : b = s1.heap.objs.size := by simpa using hb
    subst e
    exact I1.fpOk (Nat.le_refl _) (I1.hok.fresh (Nat.le_refl _))
  · obtain ⟨its, rv, p, hz⟩ := I1.tuple hq
    refine wpAny_pyIter_tuple (show s1.heap.IsTuple a its.toArray from p) ?_
    refine ⟨s1.heap.objs.size, [s1.heap.objs.size], _, _, H1, rfl, I1.kept (t' := s1.toks) fun b o e => Heap.get?_push_of_some _ e, turn_tuple a _, ⟨_, Heap.get?_push_size _ rfl, rfl, rfl⟩, fun b hb => ?_, q⟩
    have e : b = s1.heap.objs.size := by simpa using hb
    subst e
    exact I1.fpOk (Nat.le_refl _) (I1.hok.fresh (Nat.le_refl _))
theorem s_seq (ha : PE X a (tE X.K f)) : L2.PI X tg a (tI X.K (aSeq f)) := (pi_any ha).imp fun σ H R ⟨m, e, h, ds, ck, h', re, rh, ef, c⟩ => by
  unfold aSeq at ef
  split at ef
  · rename_i x h1 q1
    split at ef
    · rename_i n
      split at ef
      · rename_i xs q2
        cases ef
        refine ⟨m, e, h, .ref n, _, re, rh, q1, fun v1 H1 m1 s1 rh1 r1 => ?_⟩
        cases r1 with
        | ref h0 =>
          obtain ⟨ws, h2, _⟩ := rh1.get h0 q2
          exact ⟨_, rfl, .inl ⟨⟨ws, .of h2⟩, c m1 H1 _ s1 rh1 (j_ref h0)⟩⟩
      · cases ef
    · split at ef
      · rename_i xs q2
        cases ef
        refine ⟨m, e, h, x, _, re, rh, q1, fun v1 H1 m1 s1 rh1 r1 => ?_⟩
        cases r1 with
        | tup h0 r0 =>
          cases q2
          exact ⟨_, rfl, .inr ⟨⟨_, h0⟩, c m1 H1 _ s1 rh1 (j_tup h0 r0)⟩⟩
        | scr h0 =>
          cases q2
          exact ⟨_, rfl, .inl ⟨⟨_, h0.sq⟩, c m1 H1 _ s1 rh1 (j_scr h0 (RDs.ints _))⟩⟩
        | lst h0 n0 r0 =>
          cases q2
          exact ⟨_, rfl, .inl ⟨⟨_, .of h0⟩, c m1 H1 _ s1 rh1 (j_lst h0 n0 r0)⟩⟩
        | @ref n a h0 =>
          rename_i hne
          exact absurd rfl (hne n)
        | _ => cases q2
      · cases ef
  · cases ef
theorem s_range1 (hg : Gl X "range") (hm : X.mg "range" = none) (ha : PE X a (tE X.K f)) (hs : starEach [a] X.env = [(false, eval a X.env)]) : L2.PI X tg (.Call (.Name "range" p) [a] [] pos) (tI X.K (aRange1 f)) :=
  (pi_range1 hg hm (pa_cons ha pa_nil (by rw [hs] <;> rfl)) hs).imp fun σ H R ⟨m, e, h, ds, ck, h', re, rh, ef, c⟩ => by
    unfold aRange1 at ef
    split at ef
    · rename_i n h1 q1
      split at ef
      · rename_i hn
        cases ef
        refine ⟨m, e, h, _, _, re, rh, q1, fun v1 H1 m1 s1 rh1 r1 => ?_⟩
        cases r1
        exact ⟨n, rfl, hn.1, hn.2, c m1 H1 _ s1 rh1 (j_rng 0 n.toNat)⟩
      · cases ef
    · cases ef
theorem s_range2 (hg : Gl X "range") (hm : X.mg "range" = none) (ha : PE X a (tE X.K f)) (hb : PE X b (tE X.K f2)) (hs : starEach [a, b] X.env = [(false, eval a X.env), (false, eval b X.env)]) (hs2 : starEach [b] X.env = [(false, eval b X.env)]) :
    L2.PI X tg (.Call (.Name "range" p) [a, b] [] pos) (tI X.K (aRange2 f f2)) :=
  (pi_range2 hg hm (pa_cons ha (pa_cons hb pa_nil (by rw [hs2] <;> rfl)) (by rw [hs, hs2])) hs hs2).imp fun σ H R ⟨m, e, h, ds, ck, h', re, rh, ef, c⟩ => by
    unfold aRange2 at ef
    split at ef
    · rename_i i h1 q1
      split at ef
      · rename_i n h2 q2
        split at ef
        · rename_i hn
          cases ef
          refine ⟨m, e, h, _, _, re, rh, q1, fun v1 H1 m1 s1 rh1 r1 => ⟨m1, e, h1, _, _, re.mono s1, rh1, q2, fun v2 H2 m2 s2 rh2 r2 => ?_⟩⟩
          cases r1
          cases r2
          exact ⟨i, n, rfl, hn, c m2 H2 _ (s1.trans s2) rh2 (j_rng i (n - i).toNat)⟩
        · cases ef
      · cases ef
    · cases ef
theorem s_enum {elts : List Expr} {kk : Nat} {tpos : Pos} (hg : Gl X "enumerate") (hm : X.mg "enumerate" = none) (ha : PE X a (tE X.K f)) (hs : starEach [a] X.env = [(false, eval a X.env)]) : L2.PI X (.Tuple elts kk tpos) (.Call (.Name "enumerate" p) [a] [] pos) (tI X.K (aEnum f)) :=
  (pi_enum hg hm (pa_cons ha pa_nil (by rw [hs] <;> rfl)) hs).imp fun σ H R ⟨m, e, h, ds, ck, h', re, rh, ef, c⟩ => by
    unfold aEnum at ef
    split at ef
    · rename_i x h1 q1
      split at ef
      · rename_i n
        split at ef
        · rename_i xs q2
          cases ef
          refine ⟨m, e, h, .ref n, _, re, rh, q1, fun v1 H1 m1 s1 rh1 r1 => ?_⟩
          cases r1 with
          | ref h0 =>
            obtain ⟨ws, h2, _⟩ := rh1.get h0 q2
            exact ⟨_, ws, rfl, .of h2, c m1 H1 _ s1 rh1 (j_enumR h0)⟩
        · cases ef
      · cases ef
        refine ⟨m, e, h, _, _, re, rh, q1, fun v1 H1 m1 s1 rh1 r1 => ?_⟩
        cases r1 with
        | lst h0 n0 r0 => exact ⟨_, _, rfl, .of h0, c m1 H1 _ s1 rh1 (j_enum h0 n0 r0)⟩
      · cases ef
    · cases ef
theorem s_zip {elts : List Expr} {kk : Nat} {tpos : Pos} (hg : Gl X "zip") (hm : X.mg "zip" = none) (ha : PE X a (tE X.K f)) (hb : PE X b (tE X.K f2)) (hs : starEach [a, b] X.env = (false, eval a X.env) :: starEach [b] X.env) (hs2 : starEach [b] X.env = (false, eval b X.env) :: starEach [] X.env)
    (hpl : (backTo pos (starEach [b] X.env)).any (·.1) = false) : L2.PI X (.Tuple elts kk tpos) (.Call (.Name "zip" p) [a, b] [] pos) (tI X.K (aZip f f2)) :=
  (pi_zipM hg hm (pa_cons ha (pa_cons hb pa_nil hs2) hs) hs hpl).imp fun σ H R ⟨m, e, h, ds, ck, h', re, rh, ef, c⟩ => by
    unfold aZip at ef
    split at ef
    · rename_i x h1 q1
      split at ef
      · rename_i y h2 q2
        split at ef
        · rename_i xs ys e1 e2
          cases ef
          refine ⟨m, e, h, _, _, re, rh, q1, fun v1 H1 m1 s1 rh1 r1 => ⟨m1, e, h1, _, _, re.mono s1, rh1, q2, fun v2 H2 m2 s2 rh2 r2 => ?_⟩⟩
          obtain ⟨κ1, a1, vs1, rfl, t1, rs1⟩ := stq_of (r1.mono s2) e1
          obtain ⟨κ2, a2, vs2, rfl, t2, rs2⟩ := stq_of r2 e2
          exact ⟨κ1, κ2, _, _, _, _, rfl, t1 _ _ ⟨fun _ _ n e => ⟨e, n⟩, fun _ _ e => e, fun _ _ _ e => e, fun _ _ e => e⟩, t2 _ _ ⟨fun _ _ n e => ⟨e, n⟩, fun _ _ e => e, fun _ _ _ e => e, fun _ _ e => e⟩, c m2 H2 _ (s1.trans s2) rh2 (j_zipM t1 t2 rs1 rs2)⟩
        · cases ef
      · cases ef
    · cases ef
end
end Ev
/-! Ev part H: targets, comprehensions. -/
namespace Ev
open PySem PySem.Spec PyProof.Rows L2

def But (ns : List Nat) (σ σ' : L2.St) : Prop := σ'.length = σ.length ∧ ∀ i, i ∉ ns → σ'[i]? = σ[i]?
theorem But.refl {ns : List Nat} {σ : L2.St} : But ns σ σ := ⟨rfl, fun _ _ => rfl⟩
theorem But.trans {ns : List Nat} {σ σ' σ2 : L2.St} (a : But ns σ σ') (b : But ns σ' σ2) : But ns σ σ2 := ⟨b.1.trans a.1, fun i h => (b.2 i h).trans (a.2 i h)⟩
theorem But.mono {ns ns' : List Nat} {σ σ' : L2.St} (a : But ns σ σ') (h : ∀ i ∈ ns, i ∈ ns') : But ns' σ σ' := ⟨a.1, fun i hi => a.2 i fun z => hi (h i z)⟩
theorem wipe_in {σ : L2.St} {i : Nat} : ∀ {vs : List Nat}, i ∈ vs → i < σ.length → (wipe σ vs)[i]? = some none
  | [], h, _ => by cases h
  | j :: r, h, hl => by
    show ((wipe σ r).set j none)[i]? = some none
    by_cases e : j = i
    · subst e
      rw [List.getElem?_set_self (by rw [wipe_length]; exact hl)]
    · rw [List.getElem?_set_ne e]
      rcases List.mem_cons.mp h with z | z
      · exact absurd z.symm e
      · exact wipe_in z hl
theorem wipe_ext {σ σ' : L2.St} {vs : List Nat} (hl : σ'.length = σ.length) (h : ∀ i, i ∉ vs → σ'[i]? = σ[i]?) : wipe σ' vs = wipe σ vs := by
  apply List.ext_getElem?
  intro i
  by_cases hi : i ∈ vs
  · by_cases hlt : i < σ.length
    · rw [wipe_in hi hlt, wipe_in hi (by rw [hl]; exact hlt)]
    · rw [List.getElem?_eq_none_iff.mpr (by rw [wipe_length]; omega), List.getElem?_eq_none_iff.mpr (by rw [wipe_length]; omega)]
  · rw [wipe_out hi, wipe_out hi]
    exact h i hi
theorem wipe_wipe {σ : L2.St} {vs : List Nat} : wipe (wipe σ vs) vs = wipe σ vs := wipe_ext (wipe_length σ vs) fun i hi => wipe_out hi
theorem wipeE_length : ∀ (own : List Nat) (e : En), (wipeE e own).length = e.length
  | [], _ => rfl
  | i :: r, e => by
    show (wipeE (e.set i none) r).length = e.length
    rw [wipeE_length r, List.length_set]
theorem wipeE_at : ∀ (own : List Nat) (e : En) {i : Nat} {d : D}, (wipeE e own)[i]? = some (some d) → e[i]? = some (some d) ∧ i ∉ own
  | [], _, _, _, h => ⟨h, by simp⟩
  | j :: r, e, i, d, h => by
    have h : (wipeE (e.set j none) r)[i]? = some (some d) := h
    obtain ⟨h1, h2⟩ := wipeE_at r _ h
    by_cases z : j = i
    · subst z
      by_cases hl : j < e.length
      · rw [List.getElem?_set_self hl] at h1; cases h1
      · rw [List.getElem?_eq_none_iff.mpr (by rw [List.length_set]; omega)] at h1; cases h1
    · rw [List.getElem?_set_ne z] at h1
      exact ⟨h1, by simp [Ne.symm z, h2]⟩
section
variable {K : PySem.W.Frag} {m m' m2 m4 : Mz} {H H' H1 H2 H4 : Hp} {σ : L2.St} {e : En} {h : AH} {a : Addr}
theorem RE.wipe (r : RE K m H σ e) (vs : List Nat) : RE K m H (wipe σ vs) (wipeE e vs) := ⟨by rw [wipeE_length, wipe_length]; exact r.len, fun i d q => by
  obtain ⟨q1, q2⟩ := wipeE_at vs e q
  obtain ⟨v, h1, h2⟩ := r.at_ i d q1
  exact ⟨v, by rw [wipe_out q2]; exact h1, h2⟩⟩
theorem RE.set {i : Nat} {d : D} {v : V} (r : RE K m H σ e) (rd : RD K m H d v) : RE K m H (σ.set i (some v)) (e.set i (some d)) := ⟨by rw [List.length_set, List.length_set]; exact r.len, fun j d' q => by
  by_cases z : i = j
  · subst z
    by_cases hl : i < e.length
    · rw [List.getElem?_set_self hl] at q
      cases q
      exact ⟨v, by rw [List.getElem?_set_self (by rw [← r.len]; exact hl)], rd⟩
    · rw [List.getElem?_eq_none_iff.mpr (by rw [List.length_set]; omega)] at q; cases q
  · rw [List.getElem?_set_ne z] at q
    obtain ⟨w, h1, h2⟩ := r.at_ j d' q
    exact ⟨w, by rw [List.getElem?_set_ne z]; exact h1, h2⟩⟩
theorem Wk.res_of (w : Wk m H m2 H2) (ha : H a = none) : Wk m H (m2.res a) H2 where
  keep := fun b o n q => ⟨(w.keep b o n q).1, (w.keep b o n q).2.1, fun z => by
    rcases List.mem_cons.mp z with z | z
    · rw [z, ha] at q; cases q
    · exact (w.keep b o n q).2.2 z⟩
  tups := w.tups
  frzs := w.frzs
  pre := w.pre
/-- what happened within, the reserved place left out -/
theorem Stp.inner (s : Stp m H m2 H2) (t : Stp (m2.res a) H2 m4 H4) (ha : H a = none) : ∃ m', m4 = m'.res a ∧ Stp m H m' H4 := by
  have hz : m4.z = a :: m2.z := t.zz
  obtain ⟨mm, mz⟩ := m4
  simp only at hz
  subst hz
  have ne : ∀ {b : Addr} {o : HO}, H b = some o → b ≠ a := fun q z => by rw [z, ha] at q; cases q
  refine ⟨⟨mm, m2.z⟩, rfl, ⟨⟨fun b o n q => ?_, fun b xs q => t.tups _ _ (s.tups _ _ q), fun b o u q => t.frzs _ _ _ (s.frzs _ _ _ q), fun n b q => t.pre _ _ (s.pre _ _ q)⟩, fun b o q => ?_, s.zz, fun b o hb n q => ?_⟩⟩
  · obtain ⟨q1, n1⟩ := s.keep b o n q
    obtain ⟨q2, n2⟩ := t.keep b o ⟨n1.1, fun z => by
      rcases List.mem_cons.mp z with z | z
      · exact ne q z
      · exact n1.2 z⟩ q1
    exact ⟨q2, n2.1, fun z => n2.2 (List.mem_cons_of_mem _ z)⟩
  · obtain ⟨o1, q1⟩ := s.there b o q
    exact t.there b o1 q1
  · obtain ⟨q1, n1⟩ := s.zk b o hb n q
    exact t.zk b o (List.mem_cons_of_mem _ (by rw [s.zz]; exact hb)) n1 q1
theorem Stp.skip {xs ys : List V} (s : Stp m H m' H') (ha : H a = none) (h2 : H' a = some (.lst xs)) : Stp m H m' (upd H' a (.lst ys)) := by
  have ne : ∀ {b : Addr} {o : HO}, H b = some o → b ≠ a := fun q z => by rw [z, ha] at q; cases q
  refine ⟨⟨fun b o n q => ⟨by rw [upd_ne (ne q)]; exact (s.keep b o n q).1, (s.keep b o n q).2⟩, fun b xs q => by rw [upd_ne (ne q)]; exact s.tups _ _ q, fun b o u q => by rw [upd_ne (ne q)]; exact s.frzs _ _ _ q, s.pre⟩, fun b o q => ?_, s.zz, fun b o hb n q => ⟨by rw [upd_ne (ne q)]; exact (s.zk b o hb n q).1, (s.zk b o hb n q).2⟩⟩
  obtain ⟨o', q'⟩ := s.there b o q
  exact ⟨o', by rw [upd_ne (ne q)]; exact q'⟩
/-- the list under way is done -/
theorem lc_done {Q : VK} {pf : Bool} {acc : List D} {accV : List V} {d : D} {h h' h1 : AH} (rh1 : RH K m H h1) (s : Stp m H m2 H2) (ha : H a = none) (rh : RH K (m2.res a) H2 h) (hA : H2 a = some (.lst accV)) (r : RDs K (m2.res a) H2 acc accV) (ef : (Rz.new acc).fin pf h = some (d, h'))
    (c : ∀ v H' m', Stp m H m' H' → RH K m' H' h' → RD K m' H' d v → Q v H') : Q (.ref a) H2 := by
  have ou : m2.out a := ⟨(rh.zs a List.mem_cons_self).1, fun z => by
    rw [s.zz] at z
    obtain ⟨_, o, q⟩ := rh1.zs a z
    rw [ha] at q; cases q⟩
  have rl := rh.leave
  have r2 : RDs K m2 H2 acc accV := r.wk .leave
  cases pf with
  | false =>
    cases ef
    exact c _ H2 m2 s rl (.lst hA ou r2)
  | true =>
    cases ef
    have np : ∀ b, b ∉ m2.m → b ≠ a → b ∉ (m2.push a).m := fun b n z w => by
      rcases List.mem_append.mp w with w | w
      · exact n w
      · rw [List.mem_singleton] at w; exact z w
    have ne : ∀ {b : Addr} {o : HO}, H b = some o → b ≠ a := fun q z => by rw [z, ha] at q; cases q
    have pr : ∀ (n : Nat) (b : Addr), m2.m[n]? = some b → (m2.push a).m[n]? = some b := fun n b q => by
      show (m2.m ++ [a])[n]? = some b
      rw [List.getElem?_append_left (List.getElem?_eq_some_iff.mp q).1]
      exact q
    have wk : Wk (m2.res a) H2 (m2.push a) H2 := ⟨fun b o n q => ⟨q, np b n.1 (fun z => n.2 (by rw [z]; exact List.mem_cons_self)), fun z => n.2 (List.mem_cons_of_mem _ z)⟩, fun _ _ q => q, fun _ _ _ q => q, pr⟩
    have st : Stp m H (m2.push a) H2 := ⟨⟨fun b o n q => ⟨(s.keep b o n q).1, np b (s.keep b o n q).2.1 (ne q), (s.keep b o n q).2.2⟩, s.tups, s.frzs, fun n b q => pr n b (s.pre n b q)⟩, s.there, s.zz, fun b o hb n q => ⟨(s.zk b o hb n q).1, np b (s.zk b o hb n q).2 (ne q)⟩⟩
    refine c _ H2 (m2.push a) st ⟨?_, ?_, fun b hb => ?_, fun n b o e1 e2 => ?_⟩ (.ref ?_)
    · show (m2.m ++ [a]).length = _
      rw [List.length_append, List.length_append, rl.len] <;> rfl
    · show (m2.m ++ [a]).Nodup
      rw [List.nodup_append]
      exact ⟨rl.nd, by simp, fun x hx y hy z => by rw [List.mem_singleton] at hy; subst hy; subst z; exact ou.1 hx⟩
    · obtain ⟨n, o, q⟩ := rl.zs b hb
      exact ⟨np b n (fun z => ou.2 (by rw [← z]; exact hb)), o, q⟩
    · have e1 : (m2.m ++ [a])[n]? = some b := e1
      by_cases hn : n < h.length
      · rw [List.getElem?_append_left hn] at e2
        rw [List.getElem?_append_left (by rw [rl.len]; exact hn)] at e1
        have z := rh.ob n b o e1 e2
        cases o with
        | lst xs => obtain ⟨us, z1, z2⟩ := z; exact ⟨us, z1, z2.wk wk⟩
        | dic _ => exact z
      · have l2 : n < (h ++ [AO.lst acc]).length := (List.getElem?_eq_some_iff.mp e2).1
        rw [List.length_append] at l2
        have hn2 : n = h.length := by simp at l2; omega
        subst hn2
        rw [List.getElem?_append_right (Nat.le_refl _), Nat.sub_self] at e2
        rw [← rl.len, List.getElem?_append_right (Nat.le_refl _), Nat.sub_self] at e1
        simp at e1 e2
        subst e1 e2
        exact ⟨accV, hA, r.wk wk⟩
    · show (m2.m ++ [a])[h.length]? = some a
      rw [← rl.len, List.getElem?_append_right (Nat.le_refl _), Nat.sub_self] <;> rfl
end
/-! ### targets -/
def tG (K : PySem.W.Frag) (ns : List Nat) (g : SG) : TG := fun v σ H Q => ∃ m e h d e' h', RE K m H σ e ∧ RH K m H h ∧ RD K m H d v ∧ g d e h = some (e', h') ∧
  ∀ σ' H' m', Stp m H m' H' → RH K m' H' h' → RE K m' H' σ' e' → But ns σ σ' → Q σ' H'
def tGs (K : PySem.W.Frag) (ns : List Nat) (g : SGs) : TGs := fun vs σ H Q => ∃ m e h ds e' h', RE K m H σ e ∧ RH K m H h ∧ RDs K m H ds vs ∧ g ds e h = some (e', h') ∧
  ∀ σ' H' m', Stp m H m' H' → RH K m' H' h' → RE K m' H' σ' e' → But ns σ σ' → Q σ' H'
theorem _root_.L2.PTs.imp {X : Cx} {es : List Expr} {t t' : TT} (h : L2.PTs X es t) (i : ∀ σ H Q, t' σ H Q → t σ H Q) : L2.PTs X es t' := ⟨fun pins s σ H Q I w => h.run pins s σ H Q I (i σ H Q w)⟩
theorem _root_.L2.PG.imp {X : Cx} {e : Expr} {t t' : TG} (h : L2.PG X e t) (i : ∀ v σ H Q, t' v σ H Q → t v σ H Q) : L2.PG X e t' := ⟨fun pins s σ H v u Q I r w => h.run pins s σ H v u Q I r (i v σ H Q w)⟩
theorem _root_.L2.PGs.imp {X : Cx} {e : List Expr} {t t' : TGs} (h : L2.PGs X e t) (i : ∀ v σ H Q, t' v σ H Q → t v σ H Q) : L2.PGs X e t' := ⟨fun pins s σ H v u Q I r w => h.run pins s σ H v u Q I r (i v σ H Q w)⟩
section
variable {X : Cx} {x : Str} {pos : Pos} {a b : Expr} {es : List Expr} {i : Nat} {g : SG} {gs : SGs} {ns ns' : List Nat} {f f2 : SE}
theorem g_name (hN : X.N.Nodup) (hi : X.N[i]? = some x) (hx : Loc X.env.scope x) (hf : X.fn x = true ∨ X.env.scope.names.lookup x = some .local) : L2.PG X (.Name x pos) (tG X.K [i] (gNm i)) :=
  (pg_name hN hi hx hf).imp fun v σ H Q ⟨m, e, h, d, e', h', re, rh, rd, ef, c⟩ => by
    cases ef
    refine c _ H m .refl rh (re.set rd) ⟨List.length_set, fun j hj => ?_⟩
    rw [List.getElem?_set_ne (fun z => hj (by rw [z]; exact List.mem_singleton.mpr rfl))]
theorem g_nil : L2.PGs X [] (tGs X.K [] gNl) := pgs_nil.imp fun vs σ H Q ⟨m, e, h, ds, e', h', re, rh, rd, ef, c⟩ => by
  unfold gNl at ef
  split at ef
  · cases ef
    cases rd
    exact ⟨rfl, c _ H m .refl rh re .refl⟩
  · cases ef
theorem g_cons (h1 : L2.PG X a (tG X.K ns g)) (h2 : L2.PGs X es (tGs X.K ns' gs)) (hs : (assignEach (a :: es) X.env).map (·.2) = assign a X.env :: (assignEach es X.env).map (·.2)) : L2.PGs X (a :: es) (tGs X.K (ns ++ ns') (gCn g gs)) :=
  (pgs_cons h1 h2 hs).imp fun vs σ H Q ⟨m, e, h, ds, e', h', re, rh, rd, ef, c⟩ => by
    unfold gCn at ef
    split at ef
    · rename_i d ds
      split at ef
      · rename_i e1 hh1 q1
        cases rd with
        | cons ra rb =>
          exact ⟨_, _, rfl, ⟨m, e, h, d, e1, hh1, re, rh, ra, q1, fun σ1 H1 m1 s1 rh1 re1 b1 => ⟨m1, e1, hh1, ds, e', h', re1, rh1, rb.mono s1, ef, fun σ2 H2 m2 s2 rh2 re2 b2 =>
            c σ2 H2 m2 (s1.trans s2) rh2 re2 ((b1.mono fun i hi => List.mem_append_left _ hi).trans (b2.mono fun i hi => List.mem_append_right _ hi))⟩⟩⟩
      · cases ef
    · cases ef
def LenG (g : SGs) (n : Nat) : Prop := ∀ ds e h r, g ds e h = some r → ds.length = n
theorem g_tup {k n : Nat} (hc : X.calm = true) (h : L2.PGs X es (tGs X.K ns gs)) (hl : LenG gs n) (hn : (assignEach es X.env).length = n) (hst : (assignEach es X.env).findIdx? (·.1) = none) : L2.PG X (.Tuple es k pos) (tG X.K ns (gTp gs)) :=
  (pg_tup hc h hn hst).imp fun v σ H Q ⟨m, e, h, d, e', h', re, rh, rd, ef, c⟩ => by
    unfold gTp at ef
    split at ef
    · cases rd with
      | tup hq r => exact ⟨_, _, rfl, hq, by rw [← r.length]; exact hl _ _ _ _ ef, ⟨m, e, h, _, e', h', re, rh, r, ef, c⟩⟩
    · cases ef
def notSlice : Expr → Bool | .Slice .. => false | _ => true
theorem assign_sub (h : notSlice b = true) (v : Value) : assign (.Subscript a b pos) X.env v = (do
      let ov ← holding [v] (eval a X.env)
      let iv ← holding [v, ov] (eval b X.env)
      standAt pos
      holding [v, ov, iv] (setItem ov iv v)
      release [v, ov, iv] []) := by cases b <;> first | rfl | cases h
theorem g_sub (ho : PE X a (tE X.K f)) (hi : PE X b (tE X.K f2)) (hb : notSlice b = true) : L2.PG X (.Subscript a b pos) (tG X.K [] (gSb f f2)) :=
  (pg_sub ho hi set_list (assign_sub hb)).imp fun v σ H Q ⟨m, e, h, d, e', h', re, rh, rd, ef, c⟩ => by
    unfold gSb at ef
    split at ef
    · rename_i n h1 q1
      split at ef
      · rename_i j h2 q2
        split at ef
        · rename_i xs q3
          split at ef
          · rename_i k q4
            cases ef
            refine ⟨m, e, h, _, h1, re, rh, q1, fun v1 H1 m1 s1 rh1 r1 => ⟨m1, e, h1, _, h2, re.mono s1, rh1, q2, fun v2 H2 m2 s2 rh2 r2 => ?_⟩⟩
            have r1' := r1.mono s2
            cases r1' with
            | @ref n ad h0 =>
              cases r2
              obtain ⟨ws, hH, rs⟩ := rh2.get h0 q3
              have st := Stp.write (ys := ws.set k v) rh2 h0 hH
              exact ⟨_, ws, j, k, rfl, rfl, hH, by rw [← rs.length]; exact q4, c σ _ m2 ((s1.trans s2).trans st) (rh2.write h0 hH (rs.set ((rd.mono s1).mono s2) k)) ((re.mono (s1.trans s2)).mono st) .refl⟩
          · cases ef
        · cases ef
      · cases ef
    · cases ef
end
/-! ### comprehensions -/
section
variable {K : PySem.W.Frag} {σ : L2.St} {H : Hp} {Q : VK} {pf : Bool} {vs vs1 ns ns1 : List Nat} {g g1 : SG} {src src1 : SI} {ot ot1 : ST} {f : SE}
/-- a turn's element -/
def tEl (g : SG) (ot : ST) (b : SL) (e : En) : D → AH → Option (List D × AH) := fun d h => match g d e h with
  | some (e, h) => match ot e h with
    | some (k, h) => if k then b e h else some ([], h)
    | none => none
  | none => none
theorem aGn_eq {b : SL} {e : En} {h : AH} : aGn vs g src ot b e h = match src e h with
    | some (ds, ck, h) => lcL ck (tEl g ot b (wipeE e vs)) ds [] h
    | none => none := rfl
theorem lcL_cons {ck : Ck} {F : D → AH → Option (List D × AH)} {d : D} {ds acc : List D} {h : AH} {r : List D × AH} (q : lcL ck F (d :: ds) acc h = some r) :
    ckOk ck h ∧ ∃ xs h', F d h = some (xs, h') ∧ acc.length + xs.length < most ∧ lcL ck F ds (acc ++ xs) h' = some r := by
  unfold lcL at q
  split at q
  · rename_i c
    refine ⟨c, ?_⟩
    split at q
    · rename_i xs h' q1
      split at q
      · rename_i hl
        exact ⟨xs, h', q1, hl, q⟩
      · cases q
    · cases q
  · cases q
theorem lcL_nil {ck : Ck} {F : D → AH → Option (List D × AH)} {acc : List D} {h : AH} {r : List D × AH} (q : lcL ck F [] acc h = some r) : ckOk ck h ∧ r = (acc, h) := by
  unfold lcL at q
  split at q
  · rename_i c
    cases q
    exact ⟨c, rfl⟩
  · cases q
theorem drop_some {α : Type} {l : List α} {i : Nat} (h : i < l.length) : l.drop i = l[i] :: l.drop (i + 1) := List.drop_eq_getElem_cons h
theorem lc_tx (hns : ∀ i ∈ ns, i ∈ vs) (w : tE K (aFin pf (aGn vs g src ot (aEl f))) σ H Q) : tLc (tI K src) (tG K ns g) (tT K ot) (tE K f) vs σ H Q := by
  obtain ⟨m, e, h, d, h', re, rh, ef, c⟩ := w
  unfold aFin at ef
  split at ef
  · rename_i xs hend q0
    rw [aGn_eq] at q0
    split at q0
    · rename_i ds ck h1 q1
      refine ⟨m, e, h, ds, ck, h1, re, rh, q1, fun m1 H1 J s1 rh1 j => fun Dd hD => ?_⟩
      have re1 := re.mono s1
      refine ⟨fun i mm H2 => ∃ m2 h2 acc accV, mm = ds.length - i ∧ i ≤ ds.length ∧ Stp m1 H1 m2 H2 ∧ RH K (m2.res Dd) H2 h2 ∧ H2 Dd = some (.lst accV) ∧ RDs K (m2.res Dd) H2 acc accV ∧
        lcL ck (tEl g ot (aEl f) (wipeE e vs)) (ds.drop i) acc h2 = some (xs, hend), ⟨_, m1, h1, [], [], rfl, Nat.zero_le _, .new hD, rh1.enter hD, upd_same, .nil, q0⟩, ?_⟩
      rintro i mm H2 ⟨m2, h2, acc, accV, rfl, hi, s2, rh2, hA, rA, ql⟩
      have jj := j (m2.res Dd) H2 h2 (s2.toWk.res_of hD) rh2
      by_cases hlt : i < ds.length
      · rw [drop_some hlt] at ql
        obtain ⟨ckk, ys, h3, qF, hlen, ql⟩ := lcL_cons ql
        obtain ⟨go, yl⟩ := (jj ckk).1 i ds[i] (List.getElem?_eq_getElem hlt)
        refine .inr ⟨go, fun H3 => ∃ m3 accV', Stp m1 H1 m3 H3 ∧ RH K (m3.res Dd) H3 h3 ∧ H3 Dd = some (.lst accV') ∧ RDs K (m3.res Dd) H3 (acc ++ ys) accV', fun H3 ⟨m3, accV', a1, a2, a3, a4⟩ => ⟨ds.length - (i + 1), by omega, m3, h3, acc ++ ys, accV', rfl, hlt, a1, a2, a3, a4, ql⟩, fun x H3 y => ?_⟩
        obtain ⟨sm, rx⟩ := yl x H3 y
        have st3 : Stp (m2.res Dd) H2 (m2.res Dd) H3 := .same sm
        have re3 : RE K (m2.res Dd) H3 (wipe σ vs) (wipeE e vs) := ((re1.wk (s2.toWk.res_of hD)).mono st3).wipe vs
        unfold tEl at qF
        split at qF
        · rename_i e4 h4 qg
          split at qF
          · rename_i k h5 qt
            refine ⟨m2.res Dd, wipeE e vs, h2, ds[i], e4, h4, re3, rh2.same sm, rx, qg, fun σ4 H4 m4 s4 rh4 re4 b4 => ⟨?_, ?_⟩⟩
            · rw [wipe_ext b4.1 fun i hi => b4.2 i fun z => hi (hns i z), wipe_wipe]
            · refine ⟨m4, e4, h4, k, h5, re4, rh4, qt, fun H5 m5 s5 rh5 => ?_⟩
              have s25 : Stp (m2.res Dd) H2 m5 H5 := (st3.trans s4).trans s5
              cases k with
              | false =>
                cases qF
                refine iteF ?_
                obtain ⟨m5', rfl, s15⟩ := s2.inner s25 hD
                have zz := s25.zk Dd _ List.mem_cons_self (rh2.zs Dd List.mem_cons_self).1 hA
                exact ⟨m5', accV, s15, rh5, zz.1, by rw [List.append_nil]; exact rA.mono s25⟩
              | true =>
                refine iteT ?_
                rw [if_pos rfl] at qF
                unfold aEl at qF
                split at qF
                · rename_i dx h6 qe
                  cases qF
                  refine ⟨m5, e4, h5, dx, _, re4.mono s5, rh5, qe, fun v6 H6 m6 s6 rh6 r6 => ?_⟩
                  have s26 := s25.trans s6
                  obtain ⟨m6', rfl, s16⟩ := s2.inner s26 hD
                  have zz := s26.zk Dd _ List.mem_cons_self (rh2.zs Dd List.mem_cons_self).1 hA
                  have lA := rA.length
                  refine ⟨accV, zz.1, most_lt (by omega), m6', _, s16.skip hD zz.1, rh6.grow List.mem_cons_self zz.1, upd_same, ?_⟩
                  exact ((rA.mono s26).append (.cons r6 .nil)).wk (.grow List.mem_cons_self zz.1)
                · cases qF
          · cases qF
        · cases qF
      · have ei : i = ds.length := by omega
        subst ei
        rw [List.drop_length] at ql
        obtain ⟨ckk, er⟩ := lcL_nil ql
        cases er
        exact .inl ⟨(jj ckk).2 _ (Nat.le_refl _) (Nat.le_refl _), lc_done rh1 s2 hD rh2 hA rA ef fun v H' m' s rh' rd => c v H' m' (s1.trans s) rh' rd⟩
    · cases q0
  · cases ef
theorem lc2_tx (hns : ∀ i ∈ ns, i ∈ vs) (hns1 : ∀ i ∈ ns1, i ∈ vs1) (w : tE K (aFin pf (aGn vs g src ot (aGn vs1 g1 src1 ot1 (aEl f)))) σ H Q) : tLc2 (tI K src) (tG K ns g) (tT K ot) (tI K src1) (tG K ns1 g1) (tT K ot1) (tE K f) vs vs1 σ H Q := by
  obtain ⟨m, e, h, d, h', re, rh, ef, c⟩ := w
  unfold aFin at ef
  split at ef
  · rename_i xs hend q0
    rw [aGn_eq] at q0
    split at q0
    · rename_i ds ck h1 q1
      refine ⟨m, e, h, ds, ck, h1, re, rh, q1, fun m1 H1 J s1 rh1 j => fun Dd hD => ?_⟩
      have re1 := re.mono s1
      refine ⟨fun i mm H2 => ∃ m2 h2 acc accV, mm = ds.length - i ∧ i ≤ ds.length ∧ Stp m1 H1 m2 H2 ∧ RH K (m2.res Dd) H2 h2 ∧ H2 Dd = some (.lst accV) ∧ RDs K (m2.res Dd) H2 acc accV ∧
        lcL ck (tEl g ot (aGn vs1 g1 src1 ot1 (aEl f)) (wipeE e vs)) (ds.drop i) acc h2 = some (xs, hend), ⟨_, m1, h1, [], [], rfl, Nat.zero_le _, .new hD, rh1.enter hD, upd_same, .nil, q0⟩, ?_⟩
      rintro i mm H2 ⟨m2, h2, acc, accV, rfl, hi, s2, rh2, hA, rA, ql⟩
      have jj := j (m2.res Dd) H2 h2 (s2.toWk.res_of hD) rh2
      by_cases hlt : i < ds.length
      · rw [drop_some hlt] at ql
        obtain ⟨ckk, ys, h3, qF, hlen, ql⟩ := lcL_cons ql
        obtain ⟨go, yl⟩ := (jj ckk).1 i ds[i] (List.getElem?_eq_getElem hlt)
        refine .inr ⟨go, fun H3 => ∃ m3 accV', Stp m1 H1 m3 H3 ∧ RH K (m3.res Dd) H3 h3 ∧ H3 Dd = some (.lst accV') ∧ RDs K (m3.res Dd) H3 (acc ++ ys) accV', fun H3 ⟨m3, accV', a1, a2, a3, a4⟩ => ⟨ds.length - (i + 1), by omega, m3, h3, acc ++ ys, accV', rfl, hlt, a1, a2, a3, a4, ql⟩, fun x H3 y => ?_⟩
        obtain ⟨sm, rx⟩ := yl x H3 y
        have st3 : Stp (m2.res Dd) H2 (m2.res Dd) H3 := .same sm
        have re3 : RE K (m2.res Dd) H3 (wipe σ vs) (wipeE e vs) := ((re1.wk (s2.toWk.res_of hD)).mono st3).wipe vs
        unfold tEl at qF
        split at qF
        · rename_i e4 h4 qg
          split at qF
          · rename_i k h5 qt
            refine ⟨m2.res Dd, wipeE e vs, h2, ds[i], e4, h4, re3, rh2.same sm, rx, qg, fun σ4 H4 m4 s4 rh4 re4 b4 => ⟨?_, ?_⟩⟩
            · rw [wipe_ext b4.1 fun i hi => b4.2 i fun z => hi (hns i z), wipe_wipe]
            · refine ⟨m4, e4, h4, k, h5, re4, rh4, qt, fun H5 m5 s5 rh5 => ?_⟩
              have s25 : Stp (m2.res Dd) H2 m5 H5 := (st3.trans s4).trans s5
              have re5 := re4.mono s5
              cases k with
              | false =>
                cases qF
                refine iteF ?_
                obtain ⟨m5', rfl, s15⟩ := s2.inner s25 hD
                have zz := s25.zk Dd _ List.mem_cons_self (rh2.zs Dd List.mem_cons_self).1 hA
                exact ⟨m5', accV, s15, rh5, zz.1, by rw [List.append_nil]; exact rA.mono s25⟩
              | true =>
                refine iteT ?_
                rw [if_pos rfl, aGn_eq] at qF
                split at qF
                · rename_i ds1 ck1 h6 q6
                  -- the second source
                  refine ⟨m5, e4, h5, ds1, ck1, h6, re5, rh5, q6, fun m6 H6 J1 s6 rh6 j1 => ?_⟩
                  have s26 := s25.trans s6
                  have re6 := re5.mono s6
                  obtain ⟨m6', rfl, s16⟩ := s2.inner s26 hD
                  have zz6 := s26.zk Dd _ List.mem_cons_self (rh2.zs Dd List.mem_cons_self).1 hA
                  refine ⟨fun k kk H7 => ∃ m7 h7 ins insV, kk = ds1.length - k ∧ k ≤ ds1.length ∧ Stp m1 H1 m7 H7 ∧ Wk (m6'.res Dd) H6 (m7.res Dd) H7 ∧ RH K (m7.res Dd) H7 h7 ∧ H7 Dd = some (.lst insV) ∧ RDs K (m7.res Dd) H7 (acc ++ ins) insV ∧
                    lcL ck1 (tEl g1 ot1 (aEl f) (wipeE e4 vs1)) (ds1.drop k) ins h7 = some (ys, h3), ⟨_, m6', h6, [], accV, rfl, Nat.zero_le _, s16, Stp.refl.toWk, rh6, zz6.1, by rw [List.append_nil]; exact rA.mono s26, qF⟩, ?_⟩
                  rintro k kk H7 ⟨m7, h7, ins, insV, rfl, hk, s7, w7, rh7, hA7, rA7, ql7⟩
                  have jj1 := j1 (m7.res Dd) H7 h7 w7 rh7
                  by_cases hlt1 : k < ds1.length
                  · rw [drop_some hlt1] at ql7
                    obtain ⟨ckk1, zs, h8, qF1, hlen1, ql7⟩ := lcL_cons ql7
                    obtain ⟨go1, yl1⟩ := (jj1 ckk1).1 k ds1[k] (List.getElem?_eq_getElem hlt1)
                    refine .inr ⟨go1, fun H8 => ∃ m8 insV', Stp m1 H1 m8 H8 ∧ Wk (m6'.res Dd) H6 (m8.res Dd) H8 ∧ RH K (m8.res Dd) H8 h8 ∧ H8 Dd = some (.lst insV') ∧ RDs K (m8.res Dd) H8 (acc ++ (ins ++ zs)) insV', fun H8 ⟨m8, insV', a1, aw, a2, a3, a4⟩ => ⟨ds1.length - (k + 1), by omega, m8, h8, ins ++ zs, insV', rfl, hlt1, a1, aw, a2, a3, a4, ql7⟩, fun x8 H8 y8 => ?_⟩
                    obtain ⟨sm1, rx1⟩ := yl1 x8 H8 y8
                    have st8 : Stp (m7.res Dd) H7 (m7.res Dd) H8 := .same sm1
                    have re8 : RE K (m7.res Dd) H8 (wipe σ4 vs1) (wipeE e4 vs1) := ((re6.wk w7).mono st8).wipe vs1
                    unfold tEl at qF1
                    split at qF1
                    · rename_i e9 h9 qg1
                      split at qF1
                      · rename_i k1 h10 qt1
                        refine ⟨m7.res Dd, wipeE e4 vs1, h7, ds1[k], e9, h9, re8, rh7.same sm1, rx1, qg1, fun σ9 H9 m9 s9 rh9 re9 b9 => ⟨?_, ?_⟩⟩
                        · rw [wipe_ext b9.1 fun i hi => b9.2 i fun z => hi (hns1 i z), wipe_wipe]
                        · refine ⟨m9, e9, h9, k1, h10, re9, rh9, qt1, fun H10 m10 s10 rh10 => ?_⟩
                          have s710 : Stp (m7.res Dd) H7 m10 H10 := (st8.trans s9).trans s10
                          cases k1 with
                          | false =>
                            cases qF1
                            refine iteF ?_
                            obtain ⟨m10', rfl, s110⟩ := s7.inner s710 hD
                            have zz := s710.zk Dd _ List.mem_cons_self (rh7.zs Dd List.mem_cons_self).1 hA7
                            exact ⟨m10', insV, s110, w7.trans s710.toWk, rh10, zz.1, by rw [List.append_nil]; exact rA7.mono s710⟩
                          | true =>
                            refine iteT ?_
                            rw [if_pos rfl] at qF1
                            unfold aEl at qF1
                            split at qF1
                            · rename_i dx h11 qe
                              cases qF1
                              refine ⟨m10, e9, h10, dx, _, re9.mono s10, rh10, qe, fun v11 H11 m11 s11 rh11 r11 => ?_⟩
                              have s711 := s710.trans s11
                              obtain ⟨m11', rfl, s111⟩ := s7.inner s711 hD
                              have zz := s711.zk Dd _ List.mem_cons_self (rh7.zs Dd List.mem_cons_self).1 hA7
                              have lA := rA7.length
                              rw [List.length_append] at lA
                              have wg := Wk.grow (m := m11'.res Dd) (ys := insV ++ [v11]) List.mem_cons_self zz.1
                              refine ⟨insV, zz.1, ?_, m11', _, s111.skip hD zz.1, (w7.trans s711.toWk).trans wg, rh11.grow List.mem_cons_self zz.1, upd_same, ?_⟩
                              · have : acc.length < most := by omega
                                have l2 : ins.length + 1 < most := hlen1
                                have e1 : (sizeLine : Nat) = 16777216 := sizeLine_eq
                                have e2 : most = 1000000 := rfl
                                omega
                              · rw [← List.append_assoc]
                                exact ((rA7.mono s711).append (.cons r11 .nil)).wk wg
                            · cases qF1
                      · cases qF1
                    · cases qF1
                  · have ek : k = ds1.length := by omega
                    subst ek
                    rw [List.drop_length] at ql7
                    obtain ⟨ckk1, er⟩ := lcL_nil ql7
                    cases er
                    exact .inl ⟨(jj1 ckk1).2 _ (Nat.le_refl _) (Nat.le_refl _), m7, insV, s7, rh7, hA7, rA7⟩
                · cases qF
          · cases qF
        · cases qF
      · have ei : i = ds.length := by omega
        subst ei
        rw [List.drop_length] at ql
        obtain ⟨ckk, er⟩ := lcL_nil ql
        cases er
        exact .inl ⟨(jj ckk).2 _ (Nat.le_refl _) (Nat.le_refl _), lc_done rh1 s2 hD rh2 hA rA ef fun v H' m' s rh' rd => c v H' m' (s1.trans s) rh' rd⟩
    · cases q0
  · cases ef
end
end Ev
/-! Ev part I: statements. -/
namespace Ev
open PySem PySem.Spec PyProof.Rows L2

def OutP (K : PySem.W.Frag) (m : Mz) (H : Hp) (D : Ends) : Out → Prop
  | .nx e h => ∀ σ' H' m', Stp m H m' H' → RH K m' H' h → RE K m' H' σ' e → D.nx σ' H'
  | .rt d h => ∀ v H' m', Stp m H m' H' → RH K m' H' h → RD K m' H' d v → D.rt v H'
  | .bk e h => ∀ σ' H' m', Stp m H m' H' → RH K m' H' h → RE K m' H' σ' e → D.bk σ' H'
  | .ct e h => ∀ σ' H' m', Stp m H m' H' → RH K m' H' h → RE K m' H' σ' e → D.ct σ' H'
abbrev SS := En → AH → Option Out
def tS (K : PySem.W.Frag) (f : SS) : TS := fun D σ H => ∃ m e h o, RE K m H σ e ∧ RH K m H h ∧ f e h = some o ∧ OutP K m H D o
theorem OutP.mono {K : PySem.W.Frag} {m m' : Mz} {H H' : Hp} {D : Ends} {o : Out} (p : OutP K m H D o) (s : Stp m H m' H') : OutP K m' H' D o := by
  cases o <;> exact fun a b c t => p a b c (s.trans t)
theorem _root_.L2.PS.imp {X : Cx} {st : Stmt} {t t' : TS} (h : L2.PS X st t) (i : ∀ D σ H, t' D σ H → t D σ H) : L2.PS X st t' := ⟨fun pins s σ H D I w => h.run pins s σ H D I (i D σ H w)⟩
theorem _root_.L2.PSs.imp {X : Cx} {st : List Stmt} {t t' : TS} (h : L2.PSs X st t) (i : ∀ D σ H, t' D σ H → t D σ H) : L2.PSs X st t' := ⟨fun pins s σ H D I w => h.run pins s σ H D I (i D σ H w)⟩
section
variable {X : Cx} {a b c : Expr} {es : List Expr} {pos p : Pos} {f f2 : SE} {fl : SL} {g : SG} {ns : List Nat} {st : Stmt} {sts : List Stmt} {u w : SS} {t : ST} {i : Nat} {x : Str}
theorem c_expr (ha : PE X a (tE X.K f)) (hs : swapsWith a none pos.line X.env = pure false) : L2.PS X (.Expr a pos) (tS X.K (cExpr f)) := (ps_expr ha hs).imp fun D σ H ⟨m, e, h, o, re, rh, ef, P⟩ => by
  unfold cExpr at ef
  split at ef
  · rename_i d h1 q1
    cases ef
    exact ⟨m, e, h, d, h1, re, rh, q1, fun v H1 m1 s1 rh1 r1 => P σ H1 m1 s1 rh1 (re.mono s1)⟩
  · cases ef
theorem c_ret (ha : PE X a (tE X.K f)) : L2.PS X (.Return (some a) pos) (tS X.K (cRet f)) := (ps_ret ha).imp fun D σ H ⟨m, e, h, o, re, rh, ef, P⟩ => by
  unfold cRet at ef
  split at ef
  · rename_i d h1 q1
    cases ef
    exact ⟨m, e, h, d, h1, re, rh, q1, P⟩
  · cases ef
theorem c_retN : L2.PS X (.Return none pos) (tS X.K fun _ h => some (.rt .non h)) := ps_retN.imp fun D σ H ⟨m, e, h, o, re, rh, ef, P⟩ => by
  cases ef
  exact P .non H m .refl rh .non
theorem c_pass : L2.PS X (.Pass pos) (tS X.K fun e h => some (.nx e h)) := ps_pass.imp fun D σ H ⟨m, e, h, o, re, rh, ef, P⟩ => by
  cases ef
  exact P σ H m .refl rh re
theorem c_brk : L2.PS X (.Break pos) (tS X.K fun e h => some (.bk e h)) := ps_break.imp fun D σ H ⟨m, e, h, o, re, rh, ef, P⟩ => by
  cases ef
  exact P σ H m .refl rh re
theorem c_cnt : L2.PS X (.Continue pos) (tS X.K fun e h => some (.ct e h)) := ps_continue.imp fun D σ H ⟨m, e, h, o, re, rh, ef, P⟩ => by
  cases ef
  exact P σ H m .refl rh re
theorem c_never : L2.PS X st (tS X.K fun _ _ => none) := ps_never.imp fun D σ H ⟨m, e, h, o, re, rh, ef, P⟩ => by cases ef
theorem c_nil : L2.PSs X [] (tS X.K fun e h => some (.nx e h)) := pss_nil.imp fun D σ H ⟨m, e, h, o, re, rh, ef, P⟩ => by
  cases ef
  exact P σ H m .refl rh re
theorem c_seq (h1 : L2.PS X st (tS X.K u)) (h2 : L2.PSs X sts (tS X.K w)) : L2.PSs X (st :: sts) (tS X.K (cSeq u w)) := (pss_cons h1 h2).imp fun D σ H ⟨m, e, h, o, re, rh, ef, P⟩ => by
  unfold cSeq at ef
  split at ef
  · rename_i e1 h1 q1
    exact ⟨m, e, h, _, re, rh, q1, fun σ1 H1 m1 s1 rh1 re1 => ⟨m1, e1, h1, o, re1, rh1, ef, P.mono s1⟩⟩
  · rename_i hn
    refine ⟨m, e, h, o, re, rh, ef, ?_⟩
    cases o with
    | nx e1 h1 => exact absurd ef (hn e1 h1)
    | rt d h1 => exact P
    | bk e1 h1 => exact P
    | ct e1 h1 => exact P
theorem c_asg (ha : PE X b (tE X.K f)) (hg : L2.PG X a (tG X.K ns g)) (hs : swapsWithSole [a] b pos.line X.env = pure false) (hw : swappedStores [a] b X.env = pure none) (h1 : (assignEach [a] X.env).map (·.2) = [assign a X.env]) : L2.PS X (.Assign [a] b pos) (tS X.K (cAsg g f)) :=
  (ps_asg ha hg hs hw h1).imp fun D σ H ⟨m, e, h, o, re, rh, ef, P⟩ => by
    unfold cAsg at ef
    split at ef
    · rename_i d h1 q1
      split at ef
      · rename_i e2 h2 q2
        cases ef
        exact ⟨m, e, h, d, h1, re, rh, q1, fun v H1 m1 s1 rh1 r1 => ⟨m1, e, h1, d, e2, h2, re.mono s1, rh1, r1, q2, fun σ' H' m' s rh' re' _ => P σ' H' m' (s1.trans s) rh' re'⟩⟩
      · cases ef
    · cases ef
theorem c_set (ha : PE X b (tE X.K f)) (hN : X.N.Nodup) (hi : X.N[i]? = some x) (hx : Loc X.env.scope x) (hs : swapsWith b (some (.Name x p)) pos.line X.env = pure false) (hf : X.fn x = true ∨ X.env.scope.names.lookup x = some .local) : L2.PS X (.Assign [.Name x p] b pos) (tS X.K (cAsg (gNm i) f)) :=
  (ps_set hN hi hx ha hs hf).imp fun D σ H ⟨m, e, h, o, re, rh, ef, P⟩ => by
    unfold cAsg at ef
    split at ef
    · rename_i d h1 q1
      cases ef
      exact ⟨m, e, h, d, h1, re, rh, q1, fun v H1 m1 s1 rh1 r1 => P _ H1 m1 s1 rh1 ((re.mono s1).set r1)⟩
    · cases ef
/-- the assignment of a comprehension whose target is stored within -/
theorem asg_core {K : PySem.W.Frag} {D : Ends} {σ : L2.St} {H : Hp} (w : tS K (cAsg (gNm i) f) D σ H) : tE K f σ H fun x H1 => gName i x σ H1 D.nx := by
  obtain ⟨m, e, h, o, re, rh, ef, P⟩ := w
  unfold cAsg at ef
  split at ef
  · rename_i d h1 q1
    cases ef
    exact ⟨m, e, h, d, h1, re, rh, q1, fun v H1 m1 s1 rh1 r1 => P _ H1 m1 s1 rh1 ((re.mono s1).set r1)⟩
  · cases ef
theorem c_if (hc : L2.PT X c (tT X.K t)) (ha : L2.PSs X sts (tS X.K u)) {sts2 : List Stmt} (hb : L2.PSs X sts2 (tS X.K w)) : L2.PS X (.If c sts sts2 pos) (tS X.K (cIte t u w)) := (ps_if hc ha hb).imp fun D σ H ⟨m, e, h, o, re, rh, ef, P⟩ => by
  unfold cIte at ef
  split at ef
  · rename_i k h1 q1
    refine ⟨m, e, h, k, h1, re, rh, q1, fun H1 m1 s1 rh1 => ?_⟩
    cases k with
    | true => exact iteT ⟨m1, e, h1, o, re.mono s1, rh1, ef, P.mono s1⟩
    | false => exact iteF ⟨m1, e, h1, o, re.mono s1, rh1, ef, P.mono s1⟩
  · cases ef
theorem c_aug {op : BOp} (hN : X.N.Nodup) (hi : X.N[i]? = some x) (hx : Loc X.env.scope x) (ha : PE X a (tE X.K f)) (hf : X.fn x = true ∨ X.env.scope.names.lookup x = some .local) : L2.PS X (.AugAssign (.Name x p) op.py a pos) (tS X.K (cAug i op f)) := by
  have key : ∀ (ti : TIp), (∀ j k r H Q, augI op j k = some r → Q (V.int r) H → ti (V.int j) (V.int k) H Q) → PIp X op.py ti → L2.PS X (.AugAssign (.Name x p) op.py a pos) (tS X.K (cAug i op f)) := fun ti hti hp => by
    refine (ps_aug hN hi hx ha hp hf).imp fun D σ H ⟨m, e, h, o, re, rh, ef, P⟩ => ?_
    unfold cAug at ef
    split at ef
    · rename_i j q0
      obtain ⟨v, hv, rv⟩ := re.at_ i _ q0
      split at ef
      · rename_i k h1 q1
        split at ef
        · rename_i r q2
          cases ef
          refine ⟨v, hv, m, e, h, _, h1, re, rh, q1, fun v1 H1 m1 s1 rh1 r1 => ?_⟩
          cases rv
          cases r1
          exact hti j k r H1 _ q2 (P _ H1 m1 s1 rh1 ((re.mono s1).set (.int r)))
        · cases ef
      · cases ef
    · cases ef
  have nev : (∀ j k, augI op j k = none) → L2.PS X (.AugAssign (.Name x p) op.py a pos) (tS X.K (cAug i op f)) := fun hn => by
    refine c_never.imp fun D σ H ⟨m, e, h, o, re, rh, ef, P⟩ => ?_
    unfold cAug at ef
    split at ef
    · split at ef
      · rw [hn] at ef
        cases ef
      · cases ef
    · cases ef
  cases op with
  | add => exact key _ (fun j k r H Q e q => by cases e; exact ⟨j, k, rfl, rfl, q⟩) ip_add
  | sub => exact key _ (fun j k r H Q e q => by cases e; exact ⟨j, k, rfl, rfl, q⟩) ip_sub
  | mul => exact nev fun _ _ => rfl
  | fdiv => exact nev fun _ _ => rfl
  | mod => exact nev fun _ _ => rfl
  | pow => exact nev fun _ _ => rfl
/-- a, b = e1, e2 of plain local names -/
theorem c_par2 {j : Nat} {y : Str} {px py pt : Pos} {kt k2 : Nat} {pt2 : Pos} (hc : X.calm = true) (hN : X.N.Nodup) (hi : X.N[i]? = some x) (hj : X.N[j]? = some y) (hij : i ≠ j) (hx : X.env.scope.names.lookup x = some .local) (hy : X.env.scope.names.lookup y = some .local) (ha : PA X [a, b] (tA X.K fl))
    (hw : swappedStores [.Tuple [.Name x px, .Name y py] kt pt] (.Tuple [a, b] k2 pt2) X.env = pure (some [x, y])) : L2.PS X (.Assign [.Tuple [.Name x px, .Name y py] kt pt] (.Tuple [a, b] k2 pt2) pos) (tS X.K (cPar [i, j] fl)) :=
  (ps_par hc hN hi hj hij hx hy ha hw).imp fun D σ H ⟨m, e, h, o, re, rh, ef, P⟩ => by
    unfold cPar at ef
    split at ef
    · rename_i ds h1 q1
      split at ef
      · rename_i hl
        cases ef
        match ds, hl with
        | [d1, d2], _ =>
          refine ⟨m, e, h, _, h1, re, rh, q1, fun vs H1 m1 s1 rh1 r1 => ?_⟩
          cases r1 with
          | cons ra rb =>
            cases rb with
            | cons rb rn =>
              cases rn
              exact ⟨_, _, rfl, P _ H1 m1 s1 rh1 (((re.mono s1).set ra).set rb)⟩
      · cases ef
    · cases ef
theorem c_par3 {j l : Nat} {y z : Str} {px py pz pt : Pos} {kt k2 : Nat} {pt2 : Pos} (hc : X.calm = true) (hN : X.N.Nodup) (hi : X.N[i]? = some x) (hj : X.N[j]? = some y) (hl : X.N[l]? = some z) (hij : i ≠ j) (hil : i ≠ l) (hjl : j ≠ l)
    (hx : X.env.scope.names.lookup x = some .local) (hy : X.env.scope.names.lookup y = some .local) (hz : X.env.scope.names.lookup z = some .local) (ha : PA X [a, b, c] (tA X.K fl))
    (hw : swappedStores [.Tuple [.Name x px, .Name y py, .Name z pz] kt pt] (.Tuple [a, b, c] k2 pt2) X.env = pure (some [x, y, z])) : L2.PS X (.Assign [.Tuple [.Name x px, .Name y py, .Name z pz] kt pt] (.Tuple [a, b, c] k2 pt2) pos) (tS X.K (cPar [i, j, l] fl)) :=
  (ps_par3 hc hN hi hj hl hij hil hjl hx hy hz ha hw).imp fun D σ H ⟨m, e, h, o, re, rh, ef, P⟩ => by
    unfold cPar at ef
    split at ef
    · rename_i ds h1 q1
      split at ef
      · rename_i hl
        cases ef
        match ds, hl with
        | [d1, d2, d3], _ =>
          refine ⟨m, e, h, _, h1, re, rh, q1, fun vs H1 m1 s1 rh1 r1 => ?_⟩
          cases r1 with
          | cons ra rb =>
            cases rb with
            | cons rb rn =>
              cases rn with
              | cons rc rn =>
                cases rn
                exact ⟨_, _, _, rfl, P _ H1 m1 s1 rh1 ((((re.mono s1).set ra).set rb).set rc)⟩
      · cases ef
    · cases ef
/-! ### loops -/
theorem forL_cons {ck : Ck} {F : D → En → AH → Option Out} {d : D} {ds : List D} {e : En} {h : AH} {o : Out} (q : forL ck F (d :: ds) e h = some o) : ckOk ck h ∧ ∃ r, F d e h = some r ∧ (match r with
      | .nx e h => forL ck F ds e h
      | .ct e h => forL ck F ds e h
      | .bk e h => some (.nx e h)
      | .rt d h => some (.rt d h)) = some o := by
  unfold forL at q
  split at q
  · rename_i c
    refine ⟨c, ?_⟩
    split at q
    · rename_i e h q1; exact ⟨_, q1, q⟩
    · rename_i e h q1; exact ⟨_, q1, q⟩
    · rename_i e h q1; exact ⟨_, q1, q⟩
    · rename_i e h q1; exact ⟨_, q1, q⟩
    · cases q
  · cases q
theorem forL_nil {ck : Ck} {F : D → En → AH → Option Out} {e : En} {h : AH} {o : Out} (q : forL ck F [] e h = some o) : ckOk ck h ∧ o = .nx e h := by
  unfold forL at q
  split at q
  · rename_i c
    cases q
    exact ⟨c, rfl⟩
  · cases q
theorem c_for {src : SI} (hp : PassesOwn (model X.prog X.w) X.A X.env X.xe) (hc : X.calm = true) (hi : L2.PI X a b (tI X.K src)) (hg : L2.PG X a (tG X.K ns g)) (hb : L2.PSs X sts (tS X.K u)) (hs : ∀ x, foldedSetIterable b X.env x = pure x) : L2.PS X (.For a b sts [] pos) (tS X.K (cFor g src u)) :=
  (ps_for hp hc hi hg hb hs).imp fun D σ H ⟨m, e, h, o, re, rh, ef, P⟩ => by
    unfold cFor at ef
    split at ef
    · rename_i ds ck h1 q1
      refine ⟨m, e, h, ds, ck, h1, re, rh, q1, fun m1 H1 J s1 rh1 j => ?_⟩
      refine ⟨fun i mm σ2 H2 => ∃ m2 e2 h2, mm = ds.length - i ∧ i ≤ ds.length ∧ Stp m1 H1 m2 H2 ∧ RH X.K m2 H2 h2 ∧ RE X.K m2 H2 σ2 e2 ∧ forL ck (fun d e h => match g d e h with | some (e, h) => u e h | none => none) (ds.drop i) e2 h2 = some o,
        ⟨_, m1, e, h1, rfl, Nat.zero_le _, .refl, rh1, re.mono s1, ef⟩, ?_⟩
      rintro i mm σ2 H2 ⟨m2, e2, h2, rfl, hi, s2, rh2, re2, ql⟩
      have jj := j m2 H2 h2 s2.toWk rh2
      by_cases hlt : i < ds.length
      · rw [drop_some hlt] at ql
        obtain ⟨ckk, r, qF, ql⟩ := forL_cons ql
        obtain ⟨go, yl⟩ := (jj ckk).1 i ds[i] (List.getElem?_eq_getElem hlt)
        split at qF
        · rename_i e4 h4 qg
          -- what the turn is to reach
          refine .inr ⟨go, fun σ3 H3 => ∃ m3 e3 h3, Stp m1 H1 m3 H3 ∧ RH X.K m3 H3 h3 ∧ RE X.K m3 H3 σ3 e3 ∧ forL ck (fun d e h => match g d e h with | some (e, h) => u e h | none => none) (ds.drop (i + 1)) e3 h3 = some o,
            fun σ3 H3 ⟨m3, e3, h3, a1, a2, a3, a4⟩ => ⟨ds.length - (i + 1), by omega, m3, e3, h3, rfl, hlt, a1, a2, a3, a4⟩, fun x H3 y => ?_⟩
          obtain ⟨sm, rx⟩ := yl x H3 y
          have st3 : Stp m2 H2 m2 H3 := .same sm
          refine ⟨m2, e2, h2, ds[i], e4, h4, re2.mono st3, rh2.same sm, rx, qg, fun σ4 H4 m4 s4 rh4 re4 _ => ⟨m4, e4, h4, r, re4, rh4, qF, ?_⟩⟩
          have s14 := (s2.trans st3).trans s4
          cases r with
          | nx e5 h5 => exact fun σ5 H5 m5 s5 rh5 re5 => ⟨m5, e5, h5, s14.trans s5, rh5, re5, ql⟩
          | ct e5 h5 => exact fun σ5 H5 m5 s5 rh5 re5 => ⟨m5, e5, h5, s14.trans s5, rh5, re5, ql⟩
          | bk e5 h5 =>
            cases ql
            exact fun σ5 H5 m5 s5 rh5 re5 => P σ5 H5 m5 (s1.trans (s14.trans s5)) rh5 re5
          | rt d5 h5 =>
            cases ql
            exact fun v5 H5 m5 s5 rh5 r5 => P v5 H5 m5 (s1.trans (s14.trans s5)) rh5 r5
        · cases qF
      · have ei : i = ds.length := by omega
        subst ei
        rw [List.drop_length] at ql
        obtain ⟨ckk, er⟩ := forL_nil ql
        subst er
        exact .inl ⟨(jj ckk).2 _ (Nat.le_refl _) (Nat.le_refl _), P σ2 H2 m2 (s1.trans s2) rh2 re2⟩
    · cases ef
theorem c_while {n : Nat} (hp : PassesOwn (model X.prog X.w) X.A X.env X.xe) (hc : L2.PT X c (tT X.K t)) (hb : L2.PSs X sts (tS X.K u)) : L2.PS X (.While c sts [] pos) (tS X.K (whL t u n)) := (ps_while hp hc hb).imp fun D σ H ⟨m, e, h, o, re, rh, ef, P⟩ => by
  refine ⟨fun mm σ2 H2 => ∃ m2 e2 h2, Stp m H m2 H2 ∧ RH X.K m2 H2 h2 ∧ RE X.K m2 H2 σ2 e2 ∧ whL t u mm e2 h2 = some o, ⟨n, m, e, h, .refl, rh, re, ef⟩, ?_⟩
  rintro mm σ2 H2 ⟨m2, e2, h2, s2, rh2, re2, ql⟩
  cases mm with
  | zero => cases ql
  | succ mm =>
    unfold whL at ql
    split at ql
    · rename_i k h3 qt
      refine ⟨m2, e2, h2, k, h3, re2, rh2, qt, fun H3 m3 s3 rh3 => ?_⟩
      have s13 := s2.trans s3
      cases k with
      | false =>
        cases ql
        exact iteF (P σ2 H3 m3 s13 rh3 (re2.mono s3))
      | true =>
        refine iteT ?_
        rw [if_pos rfl] at ql
        refine ⟨fun σ4 H4 => ∃ m4 e4 h4, Stp m H m4 H4 ∧ RH X.K m4 H4 h4 ∧ RE X.K m4 H4 σ4 e4 ∧ whL t u mm e4 h4 = some o, fun σ4 H4 ⟨m4, e4, h4, a1, a2, a3, a4⟩ => ⟨mm, Nat.lt_succ_self _, m4, e4, h4, a1, a2, a3, a4⟩, ?_⟩
        split at ql
        · rename_i e4 h4 q4
          exact ⟨m3, e2, h3, _, re2.mono s3, rh3, q4, fun σ5 H5 m5 s5 rh5 re5 => ⟨m5, e4, h4, s13.trans s5, rh5, re5, ql⟩⟩
        · rename_i e4 h4 q4
          exact ⟨m3, e2, h3, _, re2.mono s3, rh3, q4, fun σ5 H5 m5 s5 rh5 re5 => ⟨m5, e4, h4, s13.trans s5, rh5, re5, ql⟩⟩
        · rename_i e4 h4 q4
          cases ql
          exact ⟨m3, e2, h3, _, re2.mono s3, rh3, q4, fun σ5 H5 m5 s5 rh5 re5 => P σ5 H5 m5 (s13.trans s5) rh5 re5⟩
        · rename_i d4 h4 q4
          cases ql
          exact ⟨m3, e2, h3, _, re2.mono s3, rh3, q4, fun v5 H5 m5 s5 rh5 r5 => P v5 H5 m5 (s13.trans s5) rh5 r5⟩
        · cases ql
    · cases ql
end
end Ev
/-! Ev part J: is this abstract code that text? -/
namespace Ev
open PySem PySem.Spec PyProof.Rows L2

mutual
def D.beq : D → D → Bool
  | .non, .non => true
  | .bl a, .bl b => a == b
  | .int a, .int b => a == b
  | .str a, .str b => decide (a = b)
  | .tup a, .tup b => D.beqs a b
  | .lst a, .lst b => D.beqs a b
  | _, _ => false
def D.beqs : List D → List D → Bool
  | [], [] => true
  | a :: as, b :: bs => a.beq b && D.beqs as bs
  | _, _ => false
end
mutual
theorem D.beq_eq : ∀ {a b : D}, a.beq b = true → a = b
  | .non, b, h => by cases b <;> first | rfl | simp [D.beq] at h
  | .bl a, b, h => by cases b <;> simp_all [D.beq]
  | .int a, b, h => by cases b <;> simp_all [D.beq]
  | .str a, b, h => by cases b <;> simp_all [D.beq]
  | .ref a, b, h => by cases b <;> simp [D.beq] at h
  | .scr a, b, h => by cases b <;> simp [D.beq] at h
  | .tup a, b, h => by
    cases b with
    | tup b =>
      have z : D.beqs a b = true := by simpa only [D.beq] using h
      rw [D.beqs_eq z]
    | _ => simp [D.beq] at h
  | .lst a, b, h => by
    cases b with
    | lst b =>
      have z : D.beqs a b = true := by simpa only [D.beq] using h
      rw [D.beqs_eq z]
    | _ => simp [D.beq] at h
theorem D.beqs_eq : ∀ {a b : List D}, D.beqs a b = true → a = b
  | [], b, h => by cases b <;> first | rfl | simp [D.beqs] at h
  | x :: xs, b, h => by
    cases b with
    | nil => simp [D.beqs] at h
    | cons y ys =>
      simp only [D.beqs, Bool.and_eq_true] at h
      rw [D.beq_eq h.1, D.beqs_eq h.2]
end

/-- what the check knows: the def's names by slot, the defs, the constants, the built-ins' names that nobody has bound -/
structure Inf where
  N : List Str
  fns : List (Str × List Str × List (Nat × List Str × List Nat))
  gcs : List (Str × D)
  blts : List Str
  gcdN : Bool
def vis (sc : Scope) (x : Str) : Bool := match sc.names.lookup x with | some .local => true | some .cell => true | some .free => true | _ => false
def loc (sc : Scope) (x : Str) : Bool := match sc.names.lookup x with | some .local => true | some .cell => true | _ => false
def glb (sc : Scope) (x : Str) : Bool := match sc.names.lookup x with | some .globalImplicit => true | _ => false
def nm (x : Str) : Bool := !(x == ("__debug__" : Str)) && !(x == ("__classdict__" : Str)) && decide (x ≠ "__name__")
theorem vis_ok {sc : Scope} {x : Str} (h : vis sc x = true) : Vis sc x := by
  unfold vis at h
  unfold Vis
  split at h
  · exact .inl (by assumption)
  · exact .inr (.inl (by assumption))
  · exact .inr (.inr (by assumption))
  · cases h
theorem loc_ok {sc : Scope} {x : Str} (h : loc sc x = true) : L2.Loc sc x := by
  unfold loc at h
  unfold L2.Loc
  split at h
  · exact .inl (by assumption)
  · exact .inr (by assumption)
  · cases h
theorem glb_ok {X : Cx} {x : Str} (h : glb X.env.scope x = true) : Gl X x := by
  unfold glb at h
  unfold Gl Env.kindOf
  split at h
  · assumption
  · cases h
theorem nm_ok {x : Str} (h : nm x = true) : (x == ("__debug__" : Str)) = false ∧ (x == ("__classdict__" : Str)) = false ∧ x ≠ "__name__" := by
  unfold nm at h
  simp only [Bool.and_eq_true, Bool.not_eq_true', decide_eq_true_eq] at h
  exact ⟨h.1.1, h.1.2, h.2⟩
/-! shapes of the text -/
def notStar : Expr → Bool | .Starred .. => false | _ => true
def notComp : Expr → Bool | .ListComp .. => false | .SetComp .. => false | .DictComp .. => false | _ => true
def notSet : Expr → Bool | .Set .. => false | _ => true
def notCall : Expr → Bool | .Call .. => false | _ => true
def isTup : Expr → Bool | .Tuple .. => true | _ => false
theorem star_ns {a : Expr} {es : List Expr} {env : Env} (h : notStar a = true) : starEach (a :: es) env = (false, eval a env) :: starEach es env := by
  cases a <;> first | rfl | cases h
theorem plain_any {env : Env} {pos : Pos} : ∀ {es : List Expr}, es.all notStar = true → (backTo pos (starEach es env)).any (·.1) = false
  | [], _ => rfl
  | a :: es, h => by
    rw [List.all_cons, Bool.and_eq_true] at h
    rw [star_ns h.1]
    have ih := plain_any (env := env) (pos := pos) h.2
    show (false || (backTo pos (starEach es env)).any (·.1)) = false
    rw [ih] <;> rfl
theorem plain_all {env : Env} {pos : Pos} : ∀ {es : List Expr}, es.all notStar = true → (backTo pos (starEach es env)).all (fun x => !x.1) = true
  | [], _ => rfl
  | a :: es, h => by
    rw [List.all_cons, Bool.and_eq_true] at h
    rw [star_ns h.1]
    have ih := plain_all (env := env) (pos := pos) h.2
    show (!false && (backTo pos (starEach es env)).all (fun x => !x.1)) = true
    rw [ih] <;> rfl
theorem plain_ix {b : Expr} (h : notSlice b = true) : PlainIx b := fun o i => by cases b <;> first | rfl | cases h
theorem base_nc {b : Expr} {nmx : Str} {env : Env} (h : notCall b = true) : attributeBase b nmx env (eval b env) = eval b env := by cases b <;> first | rfl | cases h
theorem fold_ns {b : Expr} {env : Env} (h : notSet b = true) (x : Value) : foldedSetIterable b env x = pure x := by cases b <;> first | rfl | cases h
theorem sw_nc {b : Expr} {t : Option Expr} {n : Nat} {env : Env} (h : notComp b = true) : swapsWith b t n env = pure false := by cases b <;> first | rfl | cases h
theorem kw_all {env : Env} {pos : Pos} : ∀ {kws : List Keyword} {ks : List Str}, kws.map (·.arg) = ks.map some → (backToKw pos (keywordEach kws env)).all (·.1.isSome) = true ∧ (backToKw pos (keywordEach kws env)).filterMap (·.1) = ks ∧ (backToKw pos (keywordEach kws env)).any (·.1.isNone) = false
  | [], ks, h => by
    cases ks with
    | nil => exact ⟨rfl, rfl, rfl⟩
    | cons k ks => cases h
  | ⟨a, v, p⟩ :: kws, ks, h => by
    cases ks with
    | nil => cases h
    | cons k ks =>
      simp only [List.map_cons, List.cons.injEq] at h
      obtain ⟨rfl, h2⟩ := h
      obtain ⟨h3, h4, h5⟩ := kw_all (env := env) (pos := pos) h2
      refine ⟨?_, ?_, ?_⟩
      · show (true && (backToKw pos (keywordEach kws env)).all (·.1.isSome)) = true
        rw [h3] <;> rfl
      · show (k :: (backToKw pos (keywordEach kws env)).filterMap (·.1)) = k :: ks
        rw [h4]
      · show (false || (backToKw pos (keywordEach kws env)).any (·.1.isNone)) = false
        rw [h5] <;> rfl
def XEs.noStar : XEs → Bool | .nil => true | .cons _ es => es.noStar | .star _ _ => false
def XEs.len : XEs → Nat | .nil => 0 | .cons _ es => es.len + 1 | .star _ es => es.len + 1
def XEs.isNil : XEs → Bool | .nil => true | _ => false
def XE.isHole : XE → Bool | .hole => true | _ => false
def XTs.len : XTs → Nat | .nil => 0 | .cons _ es => es.len + 1
theorem len_is {cf : CF} : ∀ {es : XEs}, es.noStar = true → LenIs (dPs cf es).l es.len
  | .nil, _ => fun e h ds h' q => by
    simp only [dPs] at q
    cases q
    rfl
  | .cons a es, hh => fun e h ds h' q => by
    simp only [dPs] at q
    unfold aCons at q
    split at q
    · split at q
      · rename_i q2
        cases q
        rw [List.length_cons, len_is (cf := cf) (es := es) hh _ _ _ _ q2] <;> rfl
      · cases q
    · cases q
  | .star _ _, hh => by cases hh
theorem leng_is {cf : CF} : ∀ {gs : XTs}, LenG (dGs cf gs) gs.len
  | .nil => fun ds e h r q => by
    simp only [dGs] at q
    unfold gNl at q
    split at q
    · rfl
    · cases q
  | .cons g gs => fun ds e h r q => by
    simp only [dGs] at q
    unfold gCn at q
    split at q
    · split at q
      · rw [List.length_cons, leng_is (cf := cf) (gs := gs) _ _ _ _ q] <;> rfl
      · cases q
    · cases q
mutual
/-- the slots that a target stores to -/
def XT.ns : XT → List Nat | .name i => [i] | .tup gs => gs.ns | .sub _ _ => []
def XTs.ns : XTs → List Nat | .nil => [] | .cons g gs => g.ns ++ gs.ns
end
/-- built-in functions that are called by their names with values alone -/
def BI.fn1 : BI → Option (Str × String)
  | .len => some ("len", "len") | .all => some ("all", "all") | .any => some ("any", "any") | .sum => some ("sum", "sum") | .abs => some ("abs", "abs") | .max2 => some ("max", "max") | .min2 => some ("min", "min") | .divmod => some ("divmod", "divmod") | .repr => some ("repr", "repr")
  | _ => none
def BI.ty1 : BI → Option (Str × String)
  | .list => some ("list", "list") | .tuple => some ("tuple", "tuple") | .int => some ("int", "int")
  | _ => none
theorem fn1_ok {b : BI} {x : Str} {id : String} (h : b.fn1 = some (x, id)) : b.plain = true ∧ b.val = .builtin id ∧ bootBuiltins x = some (.builtin id) := by
  cases b <;> first | (cases h; done) | (cases h; exact ⟨rfl, rfl, by decide +kernel⟩)
theorem ty1_ok {b : BI} {x : Str} {id : String} (h : b.ty1 = some (x, id)) : b.plain = true ∧ b.val = .type id ∧ bootBuiltins x = some (.type id) := by
  cases b <;> first | (cases h; done) | (cases h; exact ⟨rfl, rfl, by decide +kernel⟩)
def tyOf (y : Str) : Option String := if y = "int" then some "int" else if y = "bool" then some "bool" else if y = "tuple" then some "tuple" else if y = "list" then some "list" else if y = "str" then some "str" else if y = "dict" then some "dict" else none
theorem tyOf_ok {y : Str} {T : String} (h : tyOf y = some T) : T ∈ tyNames ∧ bootBuiltins y = some (.type T) := by
  unfold tyOf at h
  repeat' split at h
  all_goals first | (cases h; done) | (cases h; rename_i e; subst e; exact ⟨by decide, by decide +kernel⟩)
def MT.ok : MT → Bool | .append => true | .insert => true | .extend => true | .pop => true | _ => false
theorem mt_slot {mt : MT} (h : mt.ok = true) : Slot "list" mt.nm mt.id ∧ typeOf (.builtin mt.id) = pure (.type "method_descriptor") := by
  cases mt with
  | append => exact ⟨PySem.F.slot_list_append, PySem.F.type_list_append⟩
  | insert => exact ⟨PySem.F.slot_list_insert, PySem.F.type_list_insert⟩
  | extend => exact ⟨PySem.F.slot_list_extend, PySem.F.type_list_extend⟩
  | pop => exact ⟨PySem.F.slot_list_pop, PySem.F.type_list_pop⟩
  | _ => cases h
def glbB (I : Inf) (sc : Scope) (x : Str) : Bool := glb sc x && decide (x ∈ I.blts)

mutual
def okE (I : Inf) (sc : Scope) (p : XE) (e : Expr) : Bool :=
  match p with
  | .var i => match e with | .Name x _ => decide (I.N[i]? = some x) && vis sc x && nm x | _ => false
  | .int i => match e with | .Constant (.int j) _ _ => decide (i = j) | _ => false
  | .bl i => match e with | .Constant (.bool j) _ _ => decide (i = j) | _ => false
  | .non => match e with | .Constant .none _ _ => true | _ => false
  | .str i => match e with | .Constant (.str j) _ _ => decide (i = j) | _ => false
  | .gc x d => match e with | .Name y _ => decide (x = y) && glb sc y && nm y && (match I.gcs.lookup y with | some d' => d.beq d' | none => false) | _ => false
  | .hole => false
  | .tup es => match e with | .Tuple xs _ _ => okEs I sc es xs | _ => false
  | .lst _ es => match e with | .List xs _ => okEs I sc es xs | _ => false
  | .bin op _ a b => match e with | .BinOp x o y _ => decide (o = op.py) && okE I sc a x && okE I sc b y | _ => false
  | .neg a => match e with | .UnaryOp .USub x _ => okE I sc a x | _ => false
  | .cmp op a b => match e with | .Compare x [o] [y] _ => decide (o = op.py) && okE I sc a x && okE I sc b y && !behindInMarks op.py y | _ => false
  | .chain o1 o2 a b c => match e with | .Compare x [p1, p2] [y, z] _ => decide (p1 = o1.py) && decide (p2 = o2.py) && okE I sc a x && okE I sc b y && okE I sc c z && !lastMarks [o1.py, o2.py] [y, z] | _ => false
  | .and es => match e with | .BoolOp .And xs _ => okEs I sc es xs && es.noStar && !es.isNil | _ => false
  | .or es => match e with | .BoolOp .Or xs _ => okEs I sc es xs && es.noStar && !es.isNil | _ => false
  | .not a => match e with | .UnaryOp .Not x _ => okE I sc a x | _ => false
  | .ite t a b => match e with | .IfExp x y z _ => okE I sc t x && okE I sc a y && okE I sc b z | _ => false
  | .ix a i => match e with | .Subscript x y _ => okE I sc a x && okE I sc i y && notSlice y | _ => false
  | .sl a lo hi => match e with | .Subscript x (.Slice l u none _) _ => okE I sc a x && (match l with | none => lo.isHole | some e => !lo.isHole && okE I sc lo e) && (match u with | none => hi.isHole | some e => !hi.isHole && okE I sc hi e) | _ => false
  | .rev _ => false
  | .call f es => match e with
    | .Call (.Name x _) (y :: ys) [] _ => decide (f = x) && glb sc x && nm x && okEs I sc es (y :: ys) && (y :: ys).all notStar && (I.fns.lookup x).isSome
    | _ => false
  | .callk f es ks kes perm => match e with
    | .Call (.Name x _) ys kws _ => decide (f = x) && glb sc x && nm x && okEs I sc es ys && ys.all notStar && es.noStar && okK I sc kes kws && kes.noStar && decide (kes.len = ks.length) && decide (kws.map (·.arg) = ks.map some) &&
        (match I.fns.lookup x with | some (_, kbs) => decide ((es.len, ks, perm) ∈ kbs) | none => false)
    | _ => false
  | .bi b _ es => match b with
    | .isi [T] => match e with
      | .Call (.Name x _) [y, .Name z _] [] _ => decide (x = "isinstance") && glbB I sc x && decide (tyOf z = some T) && glbB I sc z && nm z && notStar y && (match es with | .cons a .nil => okE I sc a y | _ => false)
      | _ => false
    | .gcd => match e with
      | .Call (.Name x _) (y :: ys) [] _ => decide (x = "gcd") && glb sc x && I.gcdN && okEs I sc es (y :: ys) && (y :: ys).all notStar
      | _ => false
    | .listRange => match e with
      | .Call (.Name x _) [.Call (.Name y _) [z] [] _] [] _ => decide (x = "list") && decide (y = "range") && glbB I sc x && glbB I sc y && notStar z && (match es with | .cons a .nil => okE I sc a z | _ => false)
      | _ => false
    | b => match e with
      | .Call (.Name x _) (y :: ys) [] _ => (match b.fn1 with
          | some (n, _) => decide (n = x)
          | none => match b.ty1 with | some (n, _) => decide (n = x) | none => false) && glbB I sc x && nm x && okEs I sc es (y :: ys) && (y :: ys).all notStar
      | _ => false
  | .meth m o es => match e with
    | .Call (.Attribute x n ap) ys [] cp => m.ok && decide (n = m.nm) && okE I sc o x && notCall x && okEs I sc es ys && ys.all notStar && decide (ap.endLine = cp.line) && decide (ys.length < 29)
    | _ => false
  | .lc _ g => match e with
    | .ListComp elt gens scope _ => okG I sc scope g elt gens
    | _ => false
def okEs (I : Inf) (sc : Scope) (ps : XEs) (es : List Expr) : Bool :=
  match ps with
  | .nil => es.isEmpty
  | .cons p ps => match es with | e :: es => notStar e && okE I sc p e && okEs I sc ps es | [] => false
  | .star p ps => match es with | .Starred e _ :: es => okE I sc p e && okEs I sc ps es | _ => false
def okK (I : Inf) (sc : Scope) (ps : XEs) (kws : List Keyword) : Bool :=
  match ps with
  | .nil => kws.isEmpty
  | .cons p ps => match kws with | ⟨_, e, _⟩ :: kws => okE I sc p e && okK I sc ps kws | [] => false
  | .star _ _ => false
def okI (I : Inf) (sc : Scope) (tg : Expr) (p : XI) (e : Expr) : Bool :=
  match p with
  | .seq a => okE I sc a e && notSet e
  | .range1 a => match e with | .Call (.Name x _) [y] [] _ => decide (x = "range") && glbB I sc x && okE I sc a y && notStar y | _ => false
  | .range2 a b => match e with | .Call (.Name x _) [y, z] [] _ => decide (x = "range") && glbB I sc x && okE I sc a y && notStar y && okE I sc b z && notStar z | _ => false
  | .enum a => match e with | .Call (.Name x _) [y] [] _ => decide (x = "enumerate") && glbB I sc x && okE I sc a y && notStar y && isTup tg | _ => false
  | .zip a b => match e with | .Call (.Name x _) [y, z] [] _ => decide (x = "zip") && glbB I sc x && okE I sc a y && notStar y && okE I sc b z && notStar z && isTup tg | _ => false
  | .rng3 _ _ _ => false
  | .revd _ => false
def okT (I : Inf) (sc : Scope) (p : XT) (e : Expr) : Bool :=
  match p with
  | .name i => match e with | .Name x _ => decide (I.N[i]? = some x) && loc sc x && nm x | _ => false
  | .tup gs => match e with | .Tuple es _ _ => okTs I sc gs es | _ => false
  | .sub o i => match e with | .Subscript x y _ => okE I sc o x && okE I sc i y && notSlice y | _ => false
def okTs (I : Inf) (sc : Scope) (ps : XTs) (es : List Expr) : Bool :=
  match ps with
  | .nil => es.isEmpty
  | .cons p ps => match es with | e :: es => notStar e && okT I sc p e && okTs I sc ps es | [] => false
/-- one clause, or two -/
def okG (I : Inf) (sc scope : Scope) (g : XG) (elt : Expr) (gens : List Comprehension) : Bool :=
  match g with
  | .mk own tg src t b => match gens with
    | [⟨x, it, ifs, k⟩] => decide (k = 0) && blkC I.N sc scope (own.filterMap fun i => I.N[i]?.map fun x => (x, i)) && decide ((own.filterMap fun i => I.N[i]?.map fun x => (x, i)).map (·.2) = own) && tg.ns.all (fun i => decide (i ∈ own)) &&
        okI I sc x src it && okT I scope tg x && (match ifs with | [] => t.isHole | [e] => !t.isHole && okE I scope t e | _ => false) && notSet it && (match b with | .el p => okE I scope p elt | .gn _ => false)
    | [⟨x, it, ifs, k⟩, c2] => decide (k = 0) && blkC I.N sc scope (own.filterMap fun i => I.N[i]?.map fun x => (x, i)) && decide ((own.filterMap fun i => I.N[i]?.map fun x => (x, i)).map (·.2) = own) && tg.ns.all (fun i => decide (i ∈ own)) &&
        okI I sc x src it && okT I scope tg x && (match ifs with | [] => t.isHole | [e] => !t.isHole && okE I scope t e | _ => false) && notSet it && (match b with | .gn g2 => okG2 I scope own g2 elt c2 | .el _ => false)
    | _ => false
/-- the second clause -/
def okG2 (I : Inf) (scope : Scope) (own0 : List Nat) (g : XG) (elt : Expr) (c : Comprehension) : Bool :=
  match g with
  | .mk own tg src t b => match c with
    | ⟨x, it, ifs, k⟩ => decide (k = 0) && own.all (fun i => decide (i ∈ own0)) && tg.ns.all (fun i => decide (i ∈ own)) && okI I scope x src it && okT I scope tg x && (match ifs with | [] => t.isHole | [e] => !t.isHole && okE I scope t e | _ => false) && notSet it && (match b with | .el p => okE I scope p elt | .gn _ => false)
end
end Ev
/-! Ev part K: the check of expressions is sound. -/
namespace Ev
open PySem PySem.Spec PyProof.Rows L2

/-- a context of the walk that goes with a check's scope -/
structure Ctx (X : Cx) (sc : Scope) (I : Inf) (cf : CF) : Prop where
  g : CG X
  N : X.N = I.N
  fn : ∀ q ∈ I.fns, FnF X cf q.1 q.2.1 q.2.2
  gc : ∀ q ∈ I.gcs, ∃ u v, X.mg q.1 = some u ∧ RelV v u ∧ ∀ m H, RD X.K m H q.2 v
  bl : ∀ x ∈ I.blts, X.mg x = none
  gcd : I.gcdN = true → X.mg "gcd" = some (.builtin "math.gcd")
  vis : ∀ x, vis sc x = true → Vis X.env.scope x
  loc : ∀ x, loc sc x = true → L2.Loc X.env.scope x ∧ (X.fn x = true ∨ X.env.scope.names.lookup x = some .local)
  glb : ∀ x, glb sc x = true → Gl X x
  cap : ∀ x, sc.names.lookup x = some .cell ∨ sc.names.lookup x = some .free → X.env.scope.names.lookup x = some .cell ∨ X.env.scope.names.lookup x = some .free
theorem lookup_rel {φ : Str → NameKind → Bool} {x : Str} : ∀ {names : List (Str × NameKind)}, (names.map fun (n, k) => if φ n k = true then (n, NameKind.cell) else (n, k)).lookup x = (names.lookup x).map fun k => if φ x k = true then .cell else k
  | [] => rfl
  | (n, k) :: r => by
    rw [List.map_cons]
    have ih := lookup_rel (φ := φ) (x := x) (names := r)
    by_cases e : x = n
    · subst e
      by_cases c : φ x k = true
      · simp [c]
      · simp [c]
    · have e2 : (x == n) = false := by simpa using e
      by_cases c : φ n k = true
      · simp only [c, if_true, List.lookup_cons, e2]
        exact ih
      · simp only [c, Bool.false_eq_true, if_false, List.lookup_cons, e2]
        exact ih
section
variable {X : Cx} {sc : Scope} {I : Inf} {cf : CF}
theorem Ctx.blk (C : Ctx X sc I cf) (scope : Scope) (s : Shared) (H : Hp) (L : Addr) (cl : List (Str × Addr)) (fp : List Addr) : Ctx (X.blk s H scope (compEnvC scope cl L X.env) fp) scope I cf := by
  have key : ∀ x, (compEnvC scope cl L X.env).scope.names.lookup x = (scope.names.lookup x).map fun k => if (k == NameKind.free && X.env.scope.kind == .function && X.env.kindOf x == some .cell) = true then .cell else k := fun x => lookup_rel (φ := fun n k => k == NameKind.free && X.env.scope.kind == .function && X.env.kindOf n == some .cell)
  refine ⟨⟨C.g.calm, C.g.grd, C.g.nd, C.g.room, C.g.seer, C.g.tree, C.g.stk⟩, C.N, fun q hq => ⟨(C.fn q hq).ex⟩, C.gc, C.bl, C.gcd, fun x h => ?_, fun x h => ?_, fun x h => ?_, fun x h => ?_⟩
  · have k := key x
    unfold Vis
    rcases vis_ok h with z | z | z <;> rw [z] at k
    · exact .inl k
    · exact .inr (.inl k)
    · by_cases c : (NameKind.free == NameKind.free && X.env.scope.kind == .function && X.env.kindOf x == some .cell) = true
      · simp only [Option.map_some, c, if_true] at k
        exact .inr (.inl k)
      · simp only [Option.map_some] at k
        rw [if_neg c] at k
        exact .inr (.inr k)
  · have k := key x
    rcases loc_ok h with z | z
    · rw [z] at k
      exact ⟨.inl k, .inr k⟩
    · refine ⟨.inr (by rw [z] at k; exact k), .inl ?_⟩
      show (scope.names.lookup x == some NameKind.cell) = true
      rw [z] <;> rfl
  · have k := key x
    unfold Ev.glb at h
    split at h
    · rename_i z
      rw [z] at k
      exact k
    · cases h
  · have k := key x
    rcases h with z | z <;> rw [z] at k
    · exact .inl k
    · by_cases c : (NameKind.free == NameKind.free && X.env.scope.kind == .function && X.env.kindOf x == some .cell) = true
      · simp only [Option.map_some, c, if_true] at k
        exact .inl k
      · simp only [Option.map_some] at k
        rw [if_neg c] at k
        exact .inr k
theorem Ctx.blkC (C : Ctx X sc I cf) {scope : Scope} {own : List (Str × Nat)} (h : blkC I.N sc scope own = true) : BlkOk X.N X.env.scope scope own := by
  rw [← C.N] at h
  have z := blkOk_by h
  exact ⟨z.kind, z.uniq, z.ix, fun y hy e => C.cap _ (z.free y hy e), z.own⟩
theorem Ctx.at_ (C : Ctx X sc I cf) {i : Nat} {x : Str} (h : I.N[i]? = some x) : X.N[i]? = some x := by rw [C.N]; exact h
theorem Ctx.fnL (C : Ctx X sc I cf) {x : Str} {r : List Str × List (Nat × List Str × List Nat)} (h : I.fns.lookup x = some r) : FnF X cf x r.1 r.2 := by
  have : ∀ l : List (Str × List Str × List (Nat × List Str × List Nat)), l.lookup x = some r → (x, r) ∈ l := fun l => by
    induction l with
    | nil => intro e; cases e
    | cons p l ih =>
      intro e
      obtain ⟨y, q⟩ := p
      rw [List.lookup_cons] at e
      split at e
      · rename_i z
        cases e
        have : x = y := by simpa using z
        subst this
        exact List.mem_cons_self
      · exact List.mem_cons_of_mem _ (ih e)
  exact C.fn _ (this _ h)
theorem Ctx.gcL (C : Ctx X sc I cf) {x : Str} {d : D} (h : I.gcs.lookup x = some d) : ∃ u v, X.mg x = some u ∧ RelV v u ∧ ∀ m H, RD X.K m H d v := by
  have : ∀ l : List (Str × D), l.lookup x = some d → (x, d) ∈ l := fun l => by
    induction l with
    | nil => intro e; cases e
    | cons p l ih =>
      intro e
      obtain ⟨y, q⟩ := p
      rw [List.lookup_cons] at e
      split at e
      · rename_i z
        cases e
        have : x = y := by simpa using z
        subst this
        exact List.mem_cons_self
      · exact List.mem_cons_of_mem _ (ih e)
  exact C.gc _ (this _ h)
theorem Ctx.glbB (C : Ctx X sc I cf) {x : Str} (h : glbB I sc x = true) : Gl X x ∧ X.mg x = none := by
  unfold Ev.glbB at h
  rw [Bool.and_eq_true, decide_eq_true_eq] at h
  exact ⟨C.glb x h.1, C.bl x h.2⟩
/-- as a value, as a test -/
def SndE (X : Cx) (cf : CF) (p : XE) (e : Expr) : Prop := PE X e (tE X.K (dP cf p).1) ∧ PT X e (tT X.K (dP cf p).2)
theorem snd_of {p : XE} {e : Expr} {f : SE} (he : ∀ whole, isTrue e X.env whole = (do let v ← whole; standAt e.pos; holding [v] (truthy v))) (hd : dP cf p = (f, tst f)) (h : PE X e (tE X.K f)) : SndE X cf p e := by
  unfold SndE
  rw [hd]
  exact ⟨h, st_val h he⟩
theorem all_cons {a : Expr} {es : List Expr} (h : (a :: es).all notStar = true) : notStar a = true ∧ es.all notStar = true := by
  rw [List.all_cons, Bool.and_eq_true] at h
  exact h
theorem aGn_ot {own : List Nat} {g : SG} {src : SI} {t : XE} {ft : ST} {b : SL} : aGn own g src (aOT t ft) b = aGn own g src (aOT t ft) b := rfl
theorem aOT_hole {t : ST} : aOT .hole t = fun _ h => some (true, h) := rfl
theorem aOT_not {p : XE} {t : ST} (h : p.isHole = false) : aOT p t = t := by
  unfold aOT
  funext e h2
  cases p <;> first | rfl | cases h
theorem tests_nil {X : Cx} {t : ST} : PTs X [] (tT X.K (aOT .hole t)) := pts_nil.imp fun σ H Q ⟨m, e, h, k, h', re, rh, ef, c⟩ => by
  cases ef
  exact c H m .refl rh
theorem aO_hole {f : SE} : aO .hole f = fun _ h => some (none, h) := rfl
theorem isHole_eq {p : XE} (h : p.isHole = true) : p = .hole := by cases p <;> first | rfl | cases h
end
end Ev
/-! Ev part L: the check of expressions is sound (the recursion). -/
namespace Ev
open PySem PySem.Spec PyProof.Rows L2

theorem snd_tests {X : Cx} {sc : Scope} {I : Inf} {cf : CF} {t : XE} {ifs : List Expr} (ih : ∀ e, okE I sc t e = true → PT X e (tT X.K (dP cf t).2))
    (h : (match ifs with | [] => t.isHole | [e] => !t.isHole && okE I sc t e | _ => false) = true) : PTs X ifs (tT X.K (aOT t (dP cf t).2)) := by
  split at h
  · rw [isHole_eq h]
    exact tests_nil
  · rw [Bool.and_eq_true, Bool.not_eq_true'] at h
    rw [aOT_not h.1]
    exact pts_one (ih _ h.2)
  · cases h
theorem snd_opt {X : Cx} {sc : Scope} {I : Inf} {cf : CF} {t : XE} {o : Option Expr} (ih : ∀ e, okE I sc t e = true → PE X e (tE X.K (dP cf t).1))
    (h : (match o with | none => t.isHole | some e => !t.isHole && okE I sc t e) = true) : PO X o (tP X.K (aO t (dP cf t).1)) := by
  split at h
  · rw [isHole_eq h]
    exact s_po0
  · rw [Bool.and_eq_true, Bool.not_eq_true'] at h
    exact s_po1 (fun e => by rw [e] at h; cases h.1) (ih _ h.2)

abbrev okBool (X : Cx) (cf : CF) (ps : XEs) (es : List Expr) : Prop := ∀ pos, (PE X (.BoolOp .And es pos) (tE X.K (dPs cf ps).av) ∧ PW X (.BoolOp .And es pos) (tT X.K (dPs cf ps).at_)) ∧
    (PE X (.BoolOp .Or es pos) (tE X.K (dPs cf ps).ov) ∧ PW X (.BoolOp .Or es pos) (tT X.K (dPs cf ps).ot))
theorem LenG.tgs {X : Cx} {es : List Expr} {n : Nat} : es.all notStar = true → es.length = n → (assignEach es X.env).length = n ∧ (assignEach es X.env).findIdx? (·.1) = none := by
  intro h e
  subst e
  induction es with
  | nil => exact ⟨rfl, rfl⟩
  | cons a es ih =>
    obtain ⟨h1, h2⟩ := all_cons h
    obtain ⟨i1, i2⟩ := ih h2
    have k : assignEach (a :: es) X.env = (false, assign a X.env) :: assignEach es X.env := by cases a <;> first | rfl | cases h1
    rw [k]
    refine ⟨by rw [List.length_cons, List.length_cons, i1], ?_⟩
    rw [List.findIdx?_cons, i2] <;> rfl
theorem asg_map {X : Cx} {a : Expr} {es : List Expr} (h : notStar a = true) : (assignEach (a :: es) X.env).map (·.2) = assign a X.env :: (assignEach es X.env).map (·.2) := by cases a <;> first | rfl | cases h

mutual
theorem snd_e : ∀ (p : XE) {X : Cx} {sc : Scope} {I : Inf} {cf : CF} {e : Expr}, Ctx X sc I cf → okE I sc p e = true → SndE X cf p e
  | .var i, X, sc, I, cf, e, C, h => by
    simp only [okE] at h
    split at h
    · simp only [Bool.and_eq_true, decide_eq_true_eq] at h
      exact snd_of (fun _ => rfl) rfl (s_var (C.at_ h.1.1) (C.vis _ h.1.2) (nm_ok h.2).1 (nm_ok h.2).2.1)
    · cases h
  | .int i, X, sc, I, cf, e, C, h => by
    simp only [okE] at h
    split at h
    · rw [decide_eq_true_eq] at h
      subst h
      exact snd_of (fun _ => rfl) rfl (s_c pe_int fun _ _ => .int _)
    · cases h
  | .bl i, X, sc, I, cf, e, C, h => by
    simp only [okE] at h
    split at h
    · rw [decide_eq_true_eq] at h
      subst h
      exact snd_of (fun _ => rfl) rfl (s_c pe_bl fun _ _ => .bl _)
    · cases h
  | .non, X, sc, I, cf, e, C, h => by
    simp only [okE] at h
    split at h
    · exact snd_of (fun _ => rfl) rfl (s_c pe_non fun _ _ => .non)
    · cases h
  | .str i, X, sc, I, cf, e, C, h => by
    simp only [okE] at h
    split at h
    · rw [decide_eq_true_eq] at h
      subst h
      exact snd_of (fun _ => rfl) rfl (s_c pe_str fun _ _ => .str _)
    · cases h
  | .gc x d, X, sc, I, cf, e, C, h => by
    simp only [okE] at h
    split at h
    · rename_i y pos
      simp only [Bool.and_eq_true, decide_eq_true_eq] at h
      obtain ⟨⟨⟨h1, h2⟩, h3⟩, h4⟩ := h
      split at h4
      · rename_i d' q
        rw [← D.beq_eq h4] at q
        obtain ⟨u, v, m1, m2, m3⟩ := C.gcL q
        exact snd_of (fun _ => rfl) rfl (s_c (pe_glob (C.glb _ h2) m1 m2 (nm_ok h3).1) m3)
      · cases h4
    · cases h
  | .hole, X, sc, I, cf, e, C, h => by simp only [okE] at h; cases h
  | .tup es, X, sc, I, cf, e, C, h => by
    simp only [okE] at h
    split at h
    · exact snd_of (fun _ => rfl) rfl (s_tup (snd_es es C h).1)
    · cases h
  | .lst pf es, X, sc, I, cf, e, C, h => by
    simp only [okE] at h
    split at h
    · exact snd_of (fun _ => rfl) rfl (s_lst (snd_es es C h).1)
    · cases h
  | .bin op pf a b, X, sc, I, cf, e, C, h => by
    simp only [okE] at h
    split at h
    · simp only [Bool.and_eq_true, decide_eq_true_eq] at h
      obtain ⟨⟨h1, h2⟩, h3⟩ := h
      subst h1
      exact snd_of (fun _ => rfl) rfl (s_bin C.g (snd_e a C h2).1 (snd_e b C h3).1)
    · cases h
  | .neg a, X, sc, I, cf, e, C, h => by
    simp only [okE] at h
    split at h
    · exact snd_of (fun _ => rfl) rfl (s_neg (snd_e a C h).1)
    · cases h
  | .cmp op a b, X, sc, I, cf, e, C, h => by
    simp only [okE] at h
    split at h
    · simp only [Bool.and_eq_true, decide_eq_true_eq, Bool.not_eq_true'] at h
      obtain ⟨⟨⟨h1, h2⟩, h3⟩, h4⟩ := h
      subst h1
      exact ⟨s_cmp C.g (snd_e a C h2).1 (snd_e b C h3).1 h4, st_cmp C.g (snd_e a C h2).1 (snd_e b C h3).1 h4⟩
    · cases h
  | .chain o1 o2 a b c, X, sc, I, cf, e, C, h => by
    simp only [okE] at h
    split at h
    · simp only [Bool.and_eq_true, decide_eq_true_eq, Bool.not_eq_true'] at h
      obtain ⟨⟨⟨⟨⟨h0, h1⟩, h2⟩, h3⟩, h4⟩, h5⟩ := h
      subst h0
      subst h1
      exact ⟨s_chain C.g (snd_e a C h2).1 (snd_e b C h3).1 (snd_e c C h4).1 h5, st_chain C.g (snd_e a C h2).1 (snd_e b C h3).1 (snd_e c C h4).1 h5⟩
    · cases h
  | .and es, X, sc, I, cf, e, C, h => by
    simp only [okE] at h
    split at h
    · rename_i xs pos
      simp only [Bool.and_eq_true, Bool.not_eq_true'] at h
      have z := ((snd_es es C h.1.1).2 h.1.2 h.2 pos).1
      exact ⟨z.1, z.2.pt⟩
    · cases h
  | .or es, X, sc, I, cf, e, C, h => by
    simp only [okE] at h
    split at h
    · rename_i xs pos
      simp only [Bool.and_eq_true, Bool.not_eq_true'] at h
      have z := ((snd_es es C h.1.1).2 h.1.2 h.2 pos).2
      exact ⟨z.1, z.2.pt⟩
    · cases h
  | .not a, X, sc, I, cf, e, C, h => by
    simp only [okE] at h
    split at h
    · exact ⟨s_not (snd_e a C h).1, st_not (snd_e a C h).2⟩
    · cases h
  | .ite t a b, X, sc, I, cf, e, C, h => by
    simp only [okE] at h
    split at h
    · simp only [Bool.and_eq_true] at h
      exact ⟨s_ite (snd_e t C h.1.1).2 (snd_e a C h.1.2).1 (snd_e b C h.2).1, st_ite (snd_e t C h.1.1).2 (snd_e a C h.1.2).2 (snd_e b C h.2).2⟩
    · cases h
  | .ix a i, X, sc, I, cf, e, C, h => by
    simp only [okE] at h
    split at h
    · simp only [Bool.and_eq_true] at h
      exact snd_of (fun _ => rfl) rfl (s_ix (snd_e a C h.1.1).1 (snd_e i C h.1.2).1 (plain_ix h.2))
    · cases h
  | .sl a lo hi, X, sc, I, cf, e, C, h => by
    simp only [okE] at h
    split at h
    · rw [Bool.and_eq_true, Bool.and_eq_true] at h
      obtain ⟨⟨h1, h2⟩, h3⟩ := h
      exact snd_of (fun _ => rfl) rfl (s_sl (snd_e a C h1).1 (snd_opt (fun e he => (snd_e lo C he).1) h2) (snd_opt (fun e he => (snd_e hi C he).1) h3))
    · cases h
  | .rev _, X, sc, I, cf, e, C, h => by simp only [okE] at h; cases h
  | .call f es, X, sc, I, cf, e, C, h => by
    simp only [okE] at h
    split at h
    · simp only [Bool.and_eq_true, decide_eq_true_eq] at h
      obtain ⟨⟨⟨⟨⟨h1, h2⟩, h3⟩, h4⟩, h5⟩, h6⟩ := h
      subst h1
      obtain ⟨r, hr⟩ := Option.isSome_iff_exists.1 h6
      exact snd_of (fun _ => rfl) rfl (s_call (C.fnL hr) (C.glb _ h2) (snd_es es C h4).1 (nm_ok h3).1 (star_ns (all_cons h5).1) (plain_any (all_cons h5).2))
    · cases h
  | .callk f es ks kes perm, X, sc, I, cf, e, C, h => by
    simp only [okE] at h
    split at h
    · rename_i x p0 ys kws pos
      simp only [Bool.and_eq_true, decide_eq_true_eq] at h
      obtain ⟨⟨⟨⟨⟨⟨⟨⟨⟨⟨h1, h2⟩, h3⟩, h4⟩, h5⟩, h6⟩, h7⟩, h8⟩, h9⟩, h10⟩, h11⟩ := h
      subst h1
      split at h11
      · rename_i ps kbs hr
        rw [decide_eq_true_eq] at h11
        refine snd_of (fun _ => rfl) rfl ?_
        have l2 : LenIs (dPs cf kes).l ks.length := by rw [← h9]; exact len_is h8
        obtain ⟨k1, k2, k3⟩ := kw_all (env := X.env) h10
        cases ys with
        | nil =>
          cases es with
          | nil => exact s_callk0 (C.fnL hr) h11 (C.glb _ h2) (snd_k kes C h7) l2 k1 k2 (nm_ok h3).1 (by rw [k3] <;> rfl)
          | cons _ _ => simp only [okEs] at h4; cases h4
          | star _ _ => cases h6
        | cons y ys => exact s_callk (C.fnL hr) h11 (C.glb _ h2) (snd_es es C h4).1 (snd_k kes C h7) (len_is h6) l2 k1 k2 (nm_ok h3).1 (star_ns (all_cons h5).1) (by rw [k3, plain_any h5] <;> rfl)
      · cases h11
    · cases h
  | .bi b pf es, X, sc, I, cf, e, C, h => by
    rw [okE.eq_def] at h
    try simp only at h
    split at h
    · split at h
      · simp only [Bool.and_eq_true, decide_eq_true_eq] at h
        obtain ⟨⟨⟨⟨⟨⟨h1, h2⟩, h3⟩, h4⟩, h5⟩, h6⟩, h7⟩ := h
        subst h1
        obtain ⟨t1, t2⟩ := tyOf_ok h3
        split at h7
        · rename_i a
          exact snd_of (fun _ => rfl) rfl (s_isi C.g t1 t2 (C.glbB h4).1 (C.glbB h4).2 (nm_ok h5).2.2 (nm_ok h5).1 (C.glbB h2).1 (C.glbB h2).2 (snd_e a C h7).1 (star_ns h6))
        · cases h7
      · cases h
    · split at h
      · simp only [Bool.and_eq_true, decide_eq_true_eq] at h
        obtain ⟨⟨⟨⟨h1, h2⟩, h3⟩, h4⟩, h5⟩ := h
        subst h1
        exact snd_of (fun _ => rfl) rfl (s_biM C.g (by rfl) (by rfl) (C.glb _ h2) (C.gcd h3) (snd_es es C h4).1 (by decide) (star_ns (all_cons h5).1) (plain_any (all_cons h5).2))
      · cases h
    · split at h
      · simp only [Bool.and_eq_true, decide_eq_true_eq] at h
        obtain ⟨⟨⟨⟨⟨h1, h2⟩, h3⟩, h4⟩, h5⟩, h6⟩ := h
        subst h1
        subst h2
        split at h6
        · rename_i a
          exact snd_of (fun _ => rfl) rfl (s_lrg1 (pp := default) C.g (C.glbB h3).1 (C.glbB h3).2 (C.glbB h4).1 (C.glbB h4).2 (snd_e a C h6).1 (star_ns h5))
        · cases h6
      · cases h
    · split at h
      · simp only [Bool.and_eq_true] at h
        obtain ⟨⟨⟨⟨h1, h2⟩, h3⟩, h4⟩, h5⟩ := h
        split at h1
        · rename_i n id q
          rw [decide_eq_true_eq] at h1
          subst h1
          obtain ⟨f1, f2, f3⟩ := fn1_ok q
          exact snd_of (fun _ => rfl) rfl (s_biB C.g f1 f2 f3 (C.glbB h2).1 (C.glbB h2).2 (snd_es es C h4).1 (nm_ok h3).2.2 (nm_ok h3).1 (star_ns (all_cons h5).1) (plain_any (all_cons h5).2))
        · split at h1
          · rename_i n id q
            rw [decide_eq_true_eq] at h1
            subst h1
            obtain ⟨f1, f2, f3⟩ := ty1_ok q
            exact snd_of (fun _ => rfl) rfl (s_biT C.g f1 f2 f3 (C.glbB h2).1 (C.glbB h2).2 (snd_es es C h4).1 (nm_ok h3).2.2 (nm_ok h3).1 (star_ns (all_cons h5).1) (plain_any (all_cons h5).2))
          · cases h1
      · cases h
  | .meth m o es, X, sc, I, cf, e, C, h => by
    simp only [okE] at h
    split at h
    · rename_i x n ap ys cp
      simp only [Bool.and_eq_true, decide_eq_true_eq] at h
      obtain ⟨⟨⟨⟨⟨⟨⟨h1, h2⟩, h3⟩, h4⟩, h5⟩, h6⟩, h7⟩, h8⟩ := h
      subst h2
      obtain ⟨z1, z2⟩ := mt_slot h1
      refine snd_of (fun _ => rfl) rfl ?_
      cases ys with
      | nil =>
        cases es with
        | nil => exact s_meth0 z1 z2 (snd_e o C h3).1 (base_nc h4) (by simpa using h7)
        | cons _ _ => simp only [okEs] at h5; cases h5
        | star _ _ => simp only [okEs] at h5; cases h5
      | cons y ys =>
        refine s_meth z1 z2 (snd_e o C h3).1 (snd_es es C h5).1 (base_nc h4) ?_ (by simpa using h7) (star_ns (all_cons h6).1) (plain_any (all_cons h6).2)
        rw [plain_all h6, Bool.true_and, Bool.and_eq_true, decide_eq_true_eq]
        exact ⟨rfl, by simp only [List.length_cons] at h8 ⊢; simp; omega⟩
    · cases h
  | .lc pf (.mk own tg src t (.el p)), X, sc, I, cf, e, C, h => by
    rw [okE.eq_def] at h
    try simp only at h

    split at h
    · rename_i elt gens scope pos
      simp only [okG] at h
      split at h
      · rename_i x it ifs k
        simp only [Bool.and_eq_true, decide_eq_true_eq, List.all_eq_true] at h
        obtain ⟨⟨⟨⟨⟨⟨⟨⟨hk, hb⟩, ho⟩, hn⟩, hi⟩, hg⟩, hc⟩, hs⟩, he⟩ := h
        subst hk
        have z := pe_lc (X := X) (elt := elt) (pos := pos) (wi := tI X.K (dI cf src)) (g := tG X.K tg.ns (dG cf tg)) (tt := tT X.K (aOT t (dP cf t).2)) (te := tE X.K (dP cf p).1) C.g.calm C.g.nd (snd_i src C hi).1 (C.blkC hb)
          (fun s H L cl fp => snd_t tg (C.blk scope s H L cl fp) hg) (fun s H L cl fp => snd_tests (fun e he => (snd_e t (C.blk scope s H L cl fp) he).2) hc) (fun s H L cl fp => (snd_e p (C.blk scope s H L cl fp) he).1) (fold_ns hs)
        rw [ho] at z
        exact snd_of (fun _ => rfl) rfl (z.imp fun σ H Q w => lc_tx hn w)
      · simp only [Bool.and_eq_true] at h
        exact absurd h.2 (by simp)
      · cases h
    · cases h
  | .lc pf (.mk own tg src t (.gn (.mk own1 tg1 src1 t1 (.el p)))), X, sc, I, cf, e, C, h => by
    rw [okE.eq_def] at h
    try simp only at h

    split at h
    · rename_i elt gens scope pos
      simp only [okG] at h
      split at h
      · simp only [Bool.and_eq_true] at h
        exact absurd h.2 (by simp)
      · rename_i x it ifs k c2
        obtain ⟨x1, it1, ifs1, k1⟩ := c2
        simp only [okG2, Bool.and_eq_true, decide_eq_true_eq, List.all_eq_true] at h
        obtain ⟨⟨⟨⟨⟨⟨⟨⟨hk, hb⟩, ho⟩, hn⟩, hi⟩, hg⟩, hc⟩, hs⟩, ⟨⟨⟨⟨⟨⟨⟨hk1, hv⟩, hn1⟩, hi1⟩, hg1⟩, hc1⟩, hs1⟩, he⟩⟩ := h
        subst hk
        subst hk1
        have z := pe_lc2 (X := X) (elt := elt) (pos := pos) (vs1 := own1) (wi := tI X.K (dI cf src)) (g := tG X.K tg.ns (dG cf tg)) (tt := tT X.K (aOT t (dP cf t).2)) (wi1 := tI X.K (dI cf src1)) (g1 := tG X.K tg1.ns (dG cf tg1)) (tt1 := tT X.K (aOT t1 (dP cf t1).2)) (te := tE X.K (dP cf p).1) C.g.calm C.g.nd (snd_i src C hi).1 (C.blkC hb) (by rw [ho]; exact hv)
          (fun s H L cl fp => snd_t tg (C.blk scope s H L cl fp) hg) (fun s H L cl fp => snd_tests (fun e he => (snd_e t (C.blk scope s H L cl fp) he).2) hc)
          (fun s H L cl fp => (snd_i src1 (C.blk scope s H L cl fp) hi1).1) (fun s H L cl fp => snd_t tg1 (C.blk scope s H L cl fp) hg1) (fun s H L cl fp => snd_tests (fun e he => (snd_e t1 (C.blk scope s H L cl fp) he).2) hc1)
          (fun s H L cl fp => (snd_e p (C.blk scope s H L cl fp) he).1) (fold_ns hs) (fun env x => fold_ns hs1 x)
        rw [ho] at z
        exact snd_of (fun _ => rfl) rfl (z.imp fun σ H Q w => lc2_tx hn hn1 w)
      · cases h
    · cases h
  | .lc pf (.mk own tg src t (.gn (.mk own1 tg1 src1 t1 (.gn g)))), X, sc, I, cf, e, C, h => by
    rw [okE.eq_def] at h
    try simp only at h

    split at h
    · simp only [okG] at h
      split at h
      · simp only [Bool.and_eq_true] at h
        exact absurd h.2 (by simp)
      · rename_i c2
        obtain ⟨x1, it1, ifs1, k1⟩ := c2
        simp only [okG2, Bool.and_eq_true] at h
        exact absurd h.2.2 (by simp)
      · cases h
    · cases h
theorem snd_es : ∀ (ps : XEs) {X : Cx} {sc : Scope} {I : Inf} {cf : CF} {es : List Expr}, Ctx X sc I cf → okEs I sc ps es = true → PA X es (tA X.K (dPs cf ps).l) ∧ (ps.noStar = true → ps.isNil = false → okBool X cf ps es)
  | .nil, X, sc, I, cf, es, C, h => by
    simp only [okEs, List.isEmpty_iff] at h
    subst h
    exact ⟨s_nil, fun _ z => by cases z⟩
  | .cons p .nil, X, sc, I, cf, es, C, h => by
    simp only [okEs] at h
    split at h
    · simp only [Bool.and_eq_true, List.isEmpty_iff] at h
      obtain ⟨⟨h1, h2⟩, h3⟩ := h
      subst h3
      have z := snd_e p C h2
      exact ⟨s_cons z.1 s_nil (star_ns h1), fun _ _ pos => ⟨⟨sv_one z.1, sw_and1 z.2⟩, ⟨sv_one z.1, sw_or1 z.2⟩⟩⟩
    · cases h
  | .cons p (.cons q ps), X, sc, I, cf, es, C, h => by
    rw [okEs.eq_def] at h
    simp only at h
    split at h
    · rename_i e es
      simp only [Bool.and_eq_true] at h
      obtain ⟨⟨h1, h2⟩, h3⟩ := h
      have z := snd_e p C h2
      have ih := snd_es (.cons q ps) C h3
      refine ⟨s_cons z.1 ih.1 (star_ns h1), fun hs _ pos => ?_⟩
      cases es with
      | nil => simp only [okEs] at h3; cases h3
      | cons b es =>
        have k := ih.2 hs rfl pos
        exact ⟨⟨sv_and (xs := .cons q ps) (by intro e; cases e) z.1 k.1.1, sw_and z.2 k.1.2⟩, ⟨sv_or (xs := .cons q ps) (by intro e; cases e) z.1 k.2.1, sw_or z.2 k.2.2⟩⟩
    · cases h
  | .cons p (.star q ps), X, sc, I, cf, es, C, h => by
    rw [okEs.eq_def] at h
    simp only at h
    split at h
    · simp only [Bool.and_eq_true] at h
      obtain ⟨⟨h1, h2⟩, h3⟩ := h
      exact ⟨s_cons (snd_e p C h2).1 (snd_es (.star q ps) C h3).1 (star_ns h1), fun hs => by cases hs⟩
    · cases h
  | .star p ps, X, sc, I, cf, es, C, h => by
    rw [okEs.eq_def] at h
    simp only at h
    split at h
    · simp only [Bool.and_eq_true] at h
      exact ⟨s_star (snd_e p C h.1).1 (snd_es ps C h.2).1, fun hs => by cases hs⟩
    · cases h
theorem snd_k : ∀ (ps : XEs) {X : Cx} {sc : Scope} {I : Inf} {cf : CF} {kws : List Keyword}, Ctx X sc I cf → okK I sc ps kws = true → PK X kws (tA X.K (dPs cf ps).l)
  | .nil, X, sc, I, cf, kws, C, h => by
    simp only [okK, List.isEmpty_iff] at h
    subst h
    exact s_pk_nil
  | .cons p ps, X, sc, I, cf, kws, C, h => by
    simp only [okK] at h
    split at h
    · simp only [Bool.and_eq_true] at h
      exact s_pk_cons (snd_e p C h.1).1 (snd_k ps C h.2)
    · cases h
  | .star _ _, X, sc, I, cf, kws, C, h => by simp only [okK] at h; cases h
theorem snd_i : ∀ (p : XI) {X : Cx} {sc : Scope} {I : Inf} {cf : CF} {tg e : Expr}, Ctx X sc I cf → okI I sc tg p e = true → L2.PI X tg e (tI X.K (dI cf p)) ∧ True
  | .seq a, X, sc, I, cf, tg, e, C, h => by
    simp only [okI, Bool.and_eq_true] at h
    exact ⟨s_seq (snd_e a C h.1).1, trivial⟩
  | .range1 a, X, sc, I, cf, tg, e, C, h => by
    simp only [okI] at h
    split at h
    · simp only [Bool.and_eq_true, decide_eq_true_eq] at h
      obtain ⟨⟨⟨h1, h2⟩, h3⟩, h4⟩ := h
      subst h1
      exact ⟨s_range1 (C.glbB h2).1 (C.glbB h2).2 (snd_e a C h3).1 (star_ns h4), trivial⟩
    · cases h
  | .range2 a b, X, sc, I, cf, tg, e, C, h => by
    simp only [okI] at h
    split at h
    · simp only [Bool.and_eq_true, decide_eq_true_eq] at h
      obtain ⟨⟨⟨⟨⟨h1, h2⟩, h3⟩, h4⟩, h5⟩, h6⟩ := h
      subst h1
      exact ⟨s_range2 (C.glbB h2).1 (C.glbB h2).2 (snd_e a C h3).1 (snd_e b C h5).1 (by rw [star_ns h4, star_ns h6] <;> rfl) (star_ns h6), trivial⟩
    · cases h
  | .enum a, X, sc, I, cf, tg, e, C, h => by
    simp only [okI] at h
    split at h
    · simp only [Bool.and_eq_true, decide_eq_true_eq] at h
      obtain ⟨⟨⟨⟨h1, h2⟩, h3⟩, h4⟩, h5⟩ := h
      subst h1
      cases tg <;> first | (cases h5; done) | exact ⟨s_enum (C.glbB h2).1 (C.glbB h2).2 (snd_e a C h3).1 (star_ns h4), trivial⟩
    · cases h
  | .zip a b, X, sc, I, cf, tg, e, C, h => by
    simp only [okI] at h
    split at h
    · simp only [Bool.and_eq_true, decide_eq_true_eq] at h
      obtain ⟨⟨⟨⟨⟨⟨h1, h2⟩, h3⟩, h4⟩, h5⟩, h6⟩, h7⟩ := h
      subst h1
      cases tg <;> first | (cases h7; done) | exact ⟨s_zip (C.glbB h2).1 (C.glbB h2).2 (snd_e a C h3).1 (snd_e b C h5).1 (star_ns h4) (star_ns h6) (plain_any (by rw [List.all_cons, h6] <;> rfl)), trivial⟩
    · cases h
  | .rng3 _ _ _, X, sc, I, cf, tg, e, C, h => by simp only [okI] at h; cases h
  | .revd _, X, sc, I, cf, tg, e, C, h => by simp only [okI] at h; cases h
theorem snd_t : ∀ (p : XT) {X : Cx} {sc : Scope} {I : Inf} {cf : CF} {e : Expr}, Ctx X sc I cf → okT I sc p e = true → L2.PG X e (tG X.K p.ns (dG cf p))
  | .name i, X, sc, I, cf, e, C, h => by
    simp only [okT] at h
    split at h
    · simp only [Bool.and_eq_true, decide_eq_true_eq] at h
      obtain ⟨⟨h1, h2⟩, h3⟩ := h
      exact g_name C.g.nd (C.at_ h1) (C.loc _ h2).1 (C.loc _ h2).2
    · cases h
  | .tup gs, X, sc, I, cf, e, C, h => by
    simp only [okT] at h
    split at h
    · obtain ⟨h1, h2, h3⟩ := snd_ts gs C h
      obtain ⟨l1, l2⟩ := LenG.tgs (X := X) h2 h3
      exact g_tup C.g.calm h1 leng_is l1 l2
    · cases h
  | .sub o i, X, sc, I, cf, e, C, h => by
    simp only [okT] at h
    split at h
    · simp only [Bool.and_eq_true] at h
      exact g_sub (snd_e o C h.1.1).1 (snd_e i C h.1.2).1 h.2
    · cases h
theorem snd_ts : ∀ (ps : XTs) {X : Cx} {sc : Scope} {I : Inf} {cf : CF} {es : List Expr}, Ctx X sc I cf → okTs I sc ps es = true → L2.PGs X es (tGs X.K ps.ns (dGs cf ps)) ∧ es.all notStar = true ∧ es.length = ps.len
  | .nil, X, sc, I, cf, es, C, h => by
    simp only [okTs, List.isEmpty_iff] at h
    subst h
    exact ⟨g_nil, rfl, rfl⟩
  | .cons p ps, X, sc, I, cf, es, C, h => by
    simp only [okTs] at h
    split at h
    · simp only [Bool.and_eq_true] at h
      obtain ⟨i1, i2, i3⟩ := snd_ts ps C h.2
      refine ⟨g_cons (snd_t p C h.1.2) i1 (asg_map h.1.1), by rw [List.all_cons, h.1.1, i2] <;> rfl, by rw [List.length_cons, i3] <;> rfl⟩
    · cases h
end
end Ev
/-! Ev part M: the check of statements and its soundness. -/
namespace Ev
open PySem PySem.Spec PyProof.Rows L2

/-- the context of a def's own suite -/
structure CtxS (X : Cx) (sc : Scope) (I : Inf) (cf : CF) : Prop where
  c : Ctx X sc I cf
  po : PassesOwn (model X.prog X.w) X.A X.env X.xe
  kind : sc.kind = .function
  sce : X.env.scope = sc

def isTupT : Expr → Bool | .Tuple .. => true | .List .. => true | _ => false
def isName : Expr → Bool | .Name .. => true | _ => false
theorem sole_nc {t v : Expr} {n : Nat} {env : Env} (h : (notComp v || !isName t) = true) : swapsWithSole [t] v n env = pure false := by
  cases v <;> first | rfl | (cases t <;> first | rfl | cases h)
theorem sw_nt {t v : Expr} {env : Env} (h : isTupT t = false ∨ isTup v = false) : swappedStores [t] v env = pure none := by
  rcases h with h | h
  · cases t <;> first | rfl | cases h
  · cases t <;> first | rfl | (cases v <;> first | rfl | cases h)
/-- no swapped stores: not two or three targets, or one that is no local name, or constants alone -/
def swNo (sc : Scope) (ts vs : List Expr) : Bool :=
  !(ts.length == 2 || ts.length == 3) || ts.any (fun t => match t with | .Name id _ => !decide (sc.names.lookup id = some .local) | _ => true) || vs.all (foldedForSure 8)
def swT (sc : Scope) (t v : Expr) : Bool := match t, v with | .Tuple ts _ _, .Tuple vs _ _ => swNo sc ts vs | _, _ => false
theorem fm_len {α β : Type} {f : α → Option β} : ∀ {l : List α}, (l.filterMap f).length ≤ l.length
  | [] => Nat.le_refl _
  | a :: l => by
    rw [List.filterMap_cons]
    have ih := fm_len (f := f) (l := l)
    cases f a with
    | none => simp only [List.length_cons]; omega
    | some b => simp only [List.length_cons]; omega
theorem fm_all {α β : Type} {f : α → Option β} : ∀ {l : List α}, (l.filterMap f).length = l.length → ∀ x ∈ l, (f x).isSome = true
  | [], _, x, hx => by cases hx
  | a :: l, h, x, hx => by
    rw [List.filterMap_cons] at h
    have z := fm_len (f := f) (l := l)
    cases q : f a with
    | none => rw [q] at h; simp only [List.length_cons] at h; omega
    | some b =>
      rw [q] at h
      simp only [List.length_cons, Nat.add_right_cancel_iff] at h
      rcases List.mem_cons.mp hx with e | e
      · subst e; rw [q] <;> rfl
      · exact fm_all h x e
theorem sw_no {env : Env} {ts vs : List Expr} {k k2 : Nat} {p p2 : Pos} (h : swNo env.scope ts vs = true) : swappedStores [.Tuple ts k p] (.Tuple vs k2 p2) env = pure none := by
  unfold swappedStores
  simp only
  split
  · rfl
  · rename_i h1
    split
    · rfl
    · split
      · rfl
      · rename_i h2
        split
        · rfl
        · rename_i h3
          exfalso
          unfold swNo at h
          rw [Bool.or_eq_true, Bool.or_eq_true] at h
          rcases h with (h | h) | h
          · apply h1
            rw [h] <;> rfl
          · rw [List.any_eq_true] at h
            obtain ⟨t, ht, hb⟩ := h
            have e : (ts.filterMap fun | .Name id pos => if env.kindOf id == some .local && pos.line == (ts.head?.map (·.pos.line)).getD 0 then some id else none | _ => none).length = ts.length := by
              apply Classical.byContradiction
              intro ne
              apply h2
              rw [Bool.or_eq_true]
              left
              rw [bne_iff_ne]
              exact ne
            have z := fm_all e t ht
            cases t with
            | Name id pos =>
              simp only [Bool.not_eq_true', decide_eq_false_iff_not] at hb
              have ne : (env.kindOf id == some NameKind.local) = false := by
                rw [beq_eq_false_iff_ne]
                exact hb
              simp only [ne, Bool.false_and, Bool.false_eq_true, if_false, Option.isSome_none] at z
            | _ => cases z
          · exact h3 h
theorem asg_one {t : Expr} {env : Env} (h : notStar t = true) : (assignEach [t] env).map (·.2) = [assign t env] := by cases t <;> first | rfl | cases h
/-- names of two targets on one line -/
def par2 (sc : Scope) (x y : Str) (px py : Pos) (a b : Expr) : Bool :=
  decide (sc.names.lookup x = some .local) && decide (sc.names.lookup y = some .local) && (px.line == py.line) && decide (x ≠ y) && notStar a && notStar b && !([a, b].all (foldedForSure 8)) && !([a, b].all (constantsAlone 8))
def par3 (sc : Scope) (x y z : Str) (px py pz : Pos) (a b c : Expr) : Bool :=
  decide (sc.names.lookup x = some .local) && decide (sc.names.lookup y = some .local) && decide (sc.names.lookup z = some .local) && (px.line == py.line) && (px.line == pz.line) && decide (x ≠ y) && decide (x ≠ z) && decide (y ≠ z) && notStar a && notStar b && notStar c &&
    !([a, b, c].all (foldedForSure 8)) && !([a, b, c].all (constantsAlone 8))
theorem notStar_m {a : Expr} : notStar a = true → (match a with | .Starred .. => true | _ => false) = false := fun h => by cases a <;> first | rfl | cases h
theorem par2_ok {env : Env} {x y : Str} {px py pt : Pos} {kt k2 : Nat} {pt2 : Pos} {a b : Expr} (hk : env.scope.kind = .function) (h : par2 env.scope x y px py a b = true) :
    env.scope.names.lookup x = some .local ∧ env.scope.names.lookup y = some .local ∧ swappedStores [.Tuple [.Name x px, .Name y py] kt pt] (.Tuple [a, b] k2 pt2) env = pure (some [x, y]) := by
  unfold par2 at h
  simp only [Bool.and_eq_true, decide_eq_true_eq, Bool.not_eq_true'] at h
  obtain ⟨⟨⟨⟨⟨⟨⟨h1, h2⟩, h3⟩, h4⟩, h5⟩, h6⟩, h7⟩, h8⟩ := h
  refine ⟨h1, h2, ?_⟩
  have kx : env.kindOf x = some .local := h1
  have ky : env.kindOf y = some .local := h2
  have hb : env.blockKind = .function := by unfold Env.blockKind; rw [hk]; rfl
  have hl : (py.line == px.line) = true := by
    rw [beq_iff_eq] at h3 ⊢
    exact h3.symm
  have s1 := notStar_m h5
  have s2 := notStar_m h6
  have d : ([x, y] : List Str).eraseDups.length = 2 := by
    have e1 : (!(y == x)) = true := by simpa using fun e => h4 e.symm
    simp only [List.eraseDups_cons, List.filter_cons, List.filter_nil, e1, if_true, List.eraseDups_nil, List.length_cons, List.length_nil]
  unfold swappedStores
  have e0 : (ScopeKind.function != ScopeKind.function) = false := by decide
  simp only [hb, kx, ky, hl, h7, h8, d, Expr.pos, List.length_cons, List.length_nil, List.any_cons, List.any_nil, s1, s2, List.filterMap_cons, List.filterMap_nil, List.head?_cons, Option.map_some, Option.getD_some, beq_self_eq_true, Bool.and_self, if_true, Bool.or_false, Bool.false_eq_true, if_false, e0]
  rw [if_neg (by decide), if_neg ?_, if_neg (by decide)]
  intro q
  rw [Bool.or_eq_true] at q
  rcases q with q | q
  · exact absurd (s1.symm.trans q) (by decide)
  · exact absurd (s2.symm.trans q) (by decide)
theorem par3_ok {env : Env} {x y z : Str} {px py pz pt : Pos} {kt k2 : Nat} {pt2 : Pos} {a b c : Expr} (hk : env.scope.kind = .function) (h : par3 env.scope x y z px py pz a b c = true) :
    env.scope.names.lookup x = some .local ∧ env.scope.names.lookup y = some .local ∧ env.scope.names.lookup z = some .local ∧ swappedStores [.Tuple [.Name x px, .Name y py, .Name z pz] kt pt] (.Tuple [a, b, c] k2 pt2) env = pure (some [x, y, z]) := by
  unfold par3 at h
  simp only [Bool.and_eq_true, decide_eq_true_eq, Bool.not_eq_true'] at h
  obtain ⟨⟨⟨⟨⟨⟨⟨⟨⟨⟨⟨⟨h1, h2⟩, h0⟩, h3⟩, h3'⟩, h4⟩, h4'⟩, h4''⟩, h5⟩, h6⟩, h6'⟩, h7⟩, h8⟩ := h
  refine ⟨h1, h2, h0, ?_⟩
  have kx : env.kindOf x = some .local := h1
  have ky : env.kindOf y = some .local := h2
  have kz : env.kindOf z = some .local := h0
  have hb : env.blockKind = .function := by unfold Env.blockKind; rw [hk]; rfl
  have hl : (py.line == px.line) = true := by
    rw [beq_iff_eq] at h3 ⊢
    exact h3.symm
  have hl2 : (pz.line == px.line) = true := by
    rw [beq_iff_eq] at h3' ⊢
    exact h3'.symm
  have s1 := notStar_m h5
  have s2 := notStar_m h6
  have s3 := notStar_m h6'
  have d : ([x, y, z] : List Str).eraseDups.length = 3 := by
    have e1 : (!(y == x)) = true := by simpa using fun e => h4 e.symm
    have e2 : (!(z == x)) = true := by simpa using fun e => h4' e.symm
    have e3 : (!(z == y)) = true := by simpa using fun e => h4'' e.symm
    simp only [List.eraseDups_cons, List.filter_cons, List.filter_nil, e1, e2, e3, if_true, List.eraseDups_nil, List.length_cons, List.length_nil]
  unfold swappedStores
  have e0 : (ScopeKind.function != ScopeKind.function) = false := by decide
  simp only [hb, kx, ky, kz, hl, hl2, h7, h8, d, Expr.pos, List.length_cons, List.length_nil, List.any_cons, List.any_nil, s1, s2, s3, List.filterMap_cons, List.filterMap_nil, List.head?_cons, Option.map_some, Option.getD_some, beq_self_eq_true, Bool.and_self, if_true, Bool.or_false, Bool.false_eq_true, if_false, e0]
  rw [if_neg (by decide), if_neg ?_, if_neg (by decide)]
  intro q
  rw [Bool.or_eq_true, Bool.or_eq_true] at q
  rcases q with q | q | q
  · exact absurd (s1.symm.trans q) (by decide)
  · exact absurd (s2.symm.trans q) (by decide)
  · exact absurd (s3.symm.trans q) (by decide)
/-- is a comprehension's value stored by a swap? -/
def swB (sc scope : Scope) (y : Str) (py cp : Pos) : Bool := decide (sc.names.lookup y = some .local) && (py.line == cp.line) && !(scope.names.any fun (n, k) => n == y && (k == .local || k == .cell))
theorem swB_ok {env : Env} {elt : Expr} {gs : List Comprehension} {scope : Scope} {pos py : Pos} {y : Str} {l : Nat} (hk : env.scope.kind = .function) : swapsWith (.ListComp elt gs scope pos) (some (.Name y py)) l env = pure (swB env.scope scope y py pos) := by
  have hb : env.blockKind = .function := by unfold Env.blockKind; rw [hk]; rfl
  unfold swapsWith swB
  simp only [hb, Expr.pos]
  have e : (env.kindOf y == some NameKind.local) = decide (env.scope.names.lookup y = some .local) := by rw [Bool.eq_iff_iff, decide_eq_true_eq, beq_iff_eq] <;> rfl
  rw [e] <;> rfl
def lcScope : Expr → Option (Scope × Pos) | .ListComp _ _ s p => some (s, p) | _ => none

mutual
def okS (I : Inf) (sc : Scope) (p : XS) (s : Stmt) : Bool :=
  match p with
  | .expr a => match s with | .Expr v _ => okE I sc a v && notComp v | _ => false
  | .ret a => match s with | .Return (some v) _ => okE I sc a v | _ => false
  | .retN => match s with | .Return none _ => true | _ => false
  | .asg g a => match s with
    | .Assign [t] v _ => okE I sc a v && notStar t && (match t with
      | .Name y py => (match g with | .name i => decide (I.N[i]? = some y) && loc sc y | _ => false) && (notComp v || (match lcScope v with | some _ => true | none => false))
      | t => okT I sc g t && (!isTupT t || !isTup v || swT sc t v))
    | _ => false
  | .par is es => match s with
    | .Assign [.Tuple [.Name x px, .Name y py] _ _] (.Tuple [a, b] _ _) _ => (match is with | [i, j] => decide (I.N[i]? = some x) && decide (I.N[j]? = some y) | _ => false) && par2 sc x y px py a b && okEs I sc es [a, b]
    | .Assign [.Tuple [.Name x px, .Name y py, .Name z pz] _ _] (.Tuple [a, b, c] _ _) _ => (match is with | [i, j, k] => decide (I.N[i]? = some x) && decide (I.N[j]? = some y) && decide (I.N[k]? = some z) | _ => false) && par3 sc x y z px py pz a b c && okEs I sc es [a, b, c]
    | _ => false
  | .aug i op a => match s with | .AugAssign (.Name x _) o v _ => decide (o = op.py) && decide (I.N[i]? = some x) && loc sc x && okE I sc a v | _ => false
  | .ite t a b => match s with | .If c u v _ => okE I sc t c && okSs I sc a u && okSs I sc b v | _ => false
  | .for_ g src body => match s with | .For tg it b [] _ => okI I sc tg src it && okT I sc g tg && okSs I sc body b && notSet it | _ => false
  | .while_ t body => match s with | .While c b [] _ => okE I sc t c && okSs I sc body b | _ => false
  | .pass => match s with | .Pass _ => true | _ => false
  | .brk => match s with | .Break _ => true | _ => false
  | .cnt => match s with | .Continue _ => true | _ => false
  | .never => true
def okSs (I : Inf) (sc : Scope) (ps : XSs) (ss : List Stmt) : Bool :=
  match ps with
  | .nil => ss.isEmpty
  | .cons p ps => match ss with | s :: ss => okS I sc p s && okSs I sc ps ss | [] => false
end

section
variable {X : Cx} {sc : Scope} {I : Inf} {cf : CF}
theorem nd_ne {N : List Str} {i j : Nat} {x y : Str} (hi : N[i]? = some x) (hj : N[j]? = some y) (h : x ≠ y) : i ≠ j := by
  intro e
  subst e
  rw [hi] at hj
  cases hj
  exact h rfl
/-- name = [..] -/
theorem snd_setLc {pf : Bool} {g : XG} {elt : Expr} {gens : List Comprehension} {scope : Scope} {cp py pos : Pos} {y : Str} {i : Nat} (S : CtxS X sc I cf) (h : okE I sc (.lc pf g) (.ListComp elt gens scope cp) = true) (hi : I.N[i]? = some y)
    (hsw : swapsWith (.ListComp elt gens scope cp) (some (.Name y py)) pos.line X.env = pure true) (hl : X.env.scope.names.lookup y = some .local) : L2.PS X (.Assign [.Name y py] (.ListComp elt gens scope cp) pos) (tS X.K (cAsg (gNm i) (dP cf (.lc pf g)).1)) := by
  have C := S.c
  obtain ⟨own, tg, src, t, b⟩ := g
  rw [okE.eq_def] at h
  simp only at h
  cases b with
  | el p =>
    simp only [okG] at h
    split at h
    · rename_i x it ifs k
      simp only [Bool.and_eq_true, decide_eq_true_eq, List.all_eq_true] at h
      obtain ⟨⟨⟨⟨⟨⟨⟨⟨hk, hb⟩, ho⟩, hn⟩, hi0⟩, hg⟩, hc⟩, hs⟩, he⟩ := h
      subst hk
      have z := ps_setLc (X := X) (elt := elt) (pos := cp) (wi := tI X.K (dI cf src)) (g := tG X.K tg.ns (dG cf tg)) (tt := tT X.K (aOT t (dP cf t).2)) (te := tE X.K (dP cf p).1) C.g.calm C.g.nd (C.at_ hi) hl hsw (snd_i src C hi0).1 (C.blkC hb)
        (fun s H L cl fp => snd_t tg (C.blk scope s H L cl fp) hg) (fun s H L cl fp => snd_tests (fun e he => (snd_e t (C.blk scope s H L cl fp) he).2) hc) (fun s H L cl fp => (snd_e p (C.blk scope s H L cl fp) he).1) (fold_ns hs)
      rw [ho] at z
      exact z.imp fun D σ H w => lc_tx hn (asg_core w)
    · simp only [Bool.and_eq_true] at h
      exact absurd h.2 (by simp)
    · cases h
  | gn g1 =>
    obtain ⟨own1, tg1, src1, t1, b1⟩ := g1
    simp only [okG] at h
    split at h
    · simp only [Bool.and_eq_true] at h
      exact absurd h.2 (by simp)
    · rename_i x it ifs k c2
      obtain ⟨x1, it1, ifs1, k1⟩ := c2
      cases b1 with
      | gn g2 =>
        simp only [okG2, Bool.and_eq_true] at h
        exact absurd h.2.2 (by simp)
      | el p =>
        simp only [okG2, Bool.and_eq_true, decide_eq_true_eq, List.all_eq_true] at h
        obtain ⟨⟨⟨⟨⟨⟨⟨⟨hk, hb⟩, ho⟩, hn⟩, hi0⟩, hg⟩, hc⟩, hs⟩, ⟨⟨⟨⟨⟨⟨⟨hk1, hv⟩, hn1⟩, hi1⟩, hg1⟩, hc1⟩, hs1⟩, he⟩⟩ := h
        subst hk
        subst hk1
        have z := ps_setLc2 (X := X) (elt := elt) (pos := cp) (vs1 := own1) (wi := tI X.K (dI cf src)) (g := tG X.K tg.ns (dG cf tg)) (tt := tT X.K (aOT t (dP cf t).2)) (wi1 := tI X.K (dI cf src1)) (g1 := tG X.K tg1.ns (dG cf tg1)) (tt1 := tT X.K (aOT t1 (dP cf t1).2)) (te := tE X.K (dP cf p).1) C.g.calm C.g.nd (C.at_ hi) hl hsw (snd_i src C hi0).1 (C.blkC hb) (by rw [ho]; exact hv)
          (fun s H L cl fp => snd_t tg (C.blk scope s H L cl fp) hg) (fun s H L cl fp => snd_tests (fun e he => (snd_e t (C.blk scope s H L cl fp) he).2) hc)
          (fun s H L cl fp => (snd_i src1 (C.blk scope s H L cl fp) hi1).1) (fun s H L cl fp => snd_t tg1 (C.blk scope s H L cl fp) hg1) (fun s H L cl fp => snd_tests (fun e he => (snd_e t1 (C.blk scope s H L cl fp) he).2) hc1)
          (fun s H L cl fp => (snd_e p (C.blk scope s H L cl fp) he).1) (fold_ns hs) (fun env x => fold_ns hs1 x)
        rw [ho] at z
        exact z.imp fun D σ H w => lc2_tx hn hn1 (asg_core w)
    · cases h
end
mutual
theorem snd_s : ∀ (p : XS) (n : Nat) {X : Cx} {sc : Scope} {I : Inf} {cf : CF} {s : Stmt}, CtxS X sc I cf → okS I sc p s = true → L2.PS X s (tS X.K (dS cf n p))
  | .expr a, n, X, sc, I, cf, s, C, h => by
    rw [okS.eq_def] at h
    simp only at h
    split at h
    · rw [Bool.and_eq_true] at h
      exact c_expr (snd_e a C.c h.1).1 (sw_nc h.2)
    · cases h
  | .ret a, n, X, sc, I, cf, s, C, h => by
    rw [okS.eq_def] at h
    simp only at h
    split at h
    · exact c_ret (snd_e a C.c h).1
    · cases h
  | .retN, n, X, sc, I, cf, s, C, h => by
    rw [okS.eq_def] at h
    simp only at h
    split at h
    · exact c_retN
    · cases h
  | .asg g a, n, X, sc, I, cf, s, C, h => by
    rw [okS.eq_def] at h
    simp only at h
    split at h
    · rename_i t v pos
      rw [Bool.and_eq_true, Bool.and_eq_true] at h
      obtain ⟨⟨h1, h2⟩, h3⟩ := h
      split at h3
      · rename_i y py
        rw [Bool.and_eq_true] at h3
        obtain ⟨h3, h4⟩ := h3
        split at h3
        · rename_i i
          rw [Bool.and_eq_true, decide_eq_true_eq] at h3
          have hl := C.c.loc _ h3.2
          by_cases hn : notComp v = true
          · exact c_set (snd_e a C.c h1).1 C.c.g.nd (C.c.at_ h3.1) hl.1 (sw_nc hn) hl.2
          · rw [Bool.or_eq_true] at h4
            rcases h4 with h4 | h4
            · exact absurd h4 hn
            · cases v with
              | ListComp elt gens scope cp =>
                have hk : X.env.scope.kind = .function := by rw [C.sce]; exact C.kind
                have sw := swB_ok (elt := elt) (gs := gens) (scope := scope) (pos := cp) (py := py) (y := y) (l := pos.line) hk
                cases hb : swB X.env.scope scope y py cp with
                | true =>
                  rw [hb] at sw
                  unfold swB at hb
                  simp only [Bool.and_eq_true, decide_eq_true_eq] at hb
                  cases a with
                  | lc pf g2 => exact snd_setLc C h1 h3.1 sw hb.1.1
                  | bi b _ es =>
                    rw [okE.eq_def] at h1
                    simp only at h1
                    repeat' split at h1
                    all_goals cases h1
                  | _ => rw [okE.eq_def] at h1; cases h1
                | false =>
                  rw [hb] at sw
                  exact c_set (snd_e a C.c h1).1 C.c.g.nd (C.c.at_ h3.1) hl.1 sw hl.2
              | _ => cases h4
        · cases h3
      · rename_i hne
        rw [Bool.and_eq_true, Bool.or_eq_true, Bool.or_eq_true, Bool.not_eq_true', Bool.not_eq_true'] at h3
        have sw : swappedStores [t] v X.env = pure none := by
          rcases h3.2 with q | q
          · exact sw_nt q
          · unfold swT at q
            split at q
            · rw [← C.sce] at q
              exact sw_no q
            · cases q
        refine c_asg (snd_e a C.c h1).1 (snd_t g C.c h3.1) (sole_nc ?_) sw (asg_one h2)
        cases t <;> first | (exact absurd rfl (hne _ _)) | simp [isName]
    · cases h
  | .par is es, n, X, sc, I, cf, s, C, h => by
    have hk : X.env.scope.kind = .function := by rw [C.sce]; exact C.kind
    rw [okS.eq_def] at h
    simp only at h
    split at h
    · rw [Bool.and_eq_true, Bool.and_eq_true] at h
      obtain ⟨⟨h1, h2⟩, h3⟩ := h
      split at h1
      · rw [Bool.and_eq_true, decide_eq_true_eq, decide_eq_true_eq] at h1
        rw [← C.sce] at h2
        have z := par2_ok (pt := default) (kt := 0) (k2 := 0) (pt2 := default) hk h2
        have h2' := h2
        unfold par2 at h2'
        simp only [Bool.and_eq_true, decide_eq_true_eq] at h2'
        have ne := h2'.1.1.1.1.2
        exact c_par2 C.c.g.calm C.c.g.nd (C.c.at_ h1.1) (C.c.at_ h1.2) (nd_ne h1.1 h1.2 ne) z.1 z.2.1 (snd_es es C.c h3).1 (par2_ok hk h2).2.2
      · cases h1
    · rw [Bool.and_eq_true, Bool.and_eq_true] at h
      obtain ⟨⟨h1, h2⟩, h3⟩ := h
      split at h1
      · rw [Bool.and_eq_true, Bool.and_eq_true, decide_eq_true_eq, decide_eq_true_eq, decide_eq_true_eq] at h1
        rw [← C.sce] at h2
        have z := par3_ok (pt := default) (kt := 0) (k2 := 0) (pt2 := default) hk h2
        have h2' := h2
        unfold par3 at h2'
        simp only [Bool.and_eq_true, decide_eq_true_eq] at h2'
        have ne := h2'.1.1.1.1.1
        exact c_par3 C.c.g.calm C.c.g.nd (C.c.at_ h1.1.1) (C.c.at_ h1.1.2) (C.c.at_ h1.2) (nd_ne h1.1.1 h1.1.2 ne.1.1.2) (nd_ne h1.1.1 h1.2 ne.1.2) (nd_ne h1.1.2 h1.2 ne.2) z.1 z.2.1 z.2.2.1 (snd_es es C.c h3).1 (par3_ok hk h2).2.2.2
      · cases h1
    · cases h
  | .aug i op a, n, X, sc, I, cf, s, C, h => by
    rw [okS.eq_def] at h
    simp only at h
    split at h
    · simp only [Bool.and_eq_true, decide_eq_true_eq] at h
      obtain ⟨⟨⟨h1, h2⟩, h3⟩, h4⟩ := h
      subst h1
      have hl := C.c.loc _ h3
      exact c_aug C.c.g.nd (C.c.at_ h2) hl.1 (snd_e a C.c h4).1 hl.2
    · cases h
  | .ite t a b, n, X, sc, I, cf, s, C, h => by
    rw [okS.eq_def] at h
    simp only at h
    split at h
    · simp only [Bool.and_eq_true] at h
      exact c_if (snd_e t C.c h.1.1).2 (snd_ss a n C h.1.2) (snd_ss b n C h.2)
    · cases h
  | .for_ g src body, n, X, sc, I, cf, s, C, h => by
    rw [okS.eq_def] at h
    simp only at h
    split at h
    · simp only [Bool.and_eq_true] at h
      obtain ⟨⟨⟨h1, h2⟩, h3⟩, h4⟩ := h
      exact c_for C.po C.c.g.calm (snd_i src C.c h1).1 (snd_t g C.c h2) (snd_ss body n C h3) (fold_ns h4)
    · cases h
  | .while_ t body, n, X, sc, I, cf, s, C, h => by
    rw [okS.eq_def] at h
    simp only at h
    split at h
    · simp only [Bool.and_eq_true] at h
      exact c_while C.po (snd_e t C.c h.1).2 (snd_ss body n C h.2)
    · cases h
  | .pass, n, X, sc, I, cf, s, C, h => by
    rw [okS.eq_def] at h
    simp only at h
    split at h
    · exact c_pass
    · cases h
  | .brk, n, X, sc, I, cf, s, C, h => by
    rw [okS.eq_def] at h
    simp only at h
    split at h
    · exact c_brk
    · cases h
  | .cnt, n, X, sc, I, cf, s, C, h => by
    rw [okS.eq_def] at h
    simp only at h
    split at h
    · exact c_cnt
    · cases h
  | .never, n, X, sc, I, cf, s, C, h => c_never
theorem snd_ss : ∀ (ps : XSs) (n : Nat) {X : Cx} {sc : Scope} {I : Inf} {cf : CF} {ss : List Stmt}, CtxS X sc I cf → okSs I sc ps ss = true → L2.PSs X ss (tS X.K (dSs cf n ps))
  | .nil, n, X, sc, I, cf, ss, C, h => by
    rw [okSs.eq_def] at h
    simp only [List.isEmpty_iff] at h
    subst h
    exact c_nil
  | .cons p ps, n, X, sc, I, cf, ss, C, h => by
    rw [okSs.eq_def] at h
    simp only at h
    split at h
    · rw [Bool.and_eq_true] at h
      exact c_seq (snd_s p n C h.1) (snd_ss ps n C h.2)
    · cases h
end
end Ev
/-! Ev part N: a def keeps what its abstract function says. -/
namespace Ev
open PySem PySem.Spec PyProof.Rows L2

section
variable {K : PySem.W.Frag} {m m' m2 : Mz} {H H' : Hp} {h h' : AH}
mutual
theorem RD.belN : ∀ {d : D} {v : V}, RD K m H d v → d.bel m.m.length = true
  | _, _, .non => rfl
  | _, _, .bl b => rfl
  | _, _, .int i => rfl
  | _, _, .str x => rfl
  | _, _, .tup h r => by simpa only [D.bel] using RDs.belN r
  | _, _, .lst h n r => by simpa only [D.bel] using RDs.belN r
  | _, _, .scr h => rfl
  | _, _, .ref h => by
    simp only [D.bel, decide_eq_true_eq]
    exact (List.getElem?_eq_some_iff.mp h).1
theorem RDs.belN : ∀ {ds : List D} {vs : List V}, RDs K m H ds vs → D.bels m.m.length ds = true
  | _, _, .nil => rfl
  | _, _, .cons a b => by simp only [D.bels, RD.belN a, RDs.belN b, Bool.and_self]
end
/-- a smaller store that knows the first n -/
structure Dn (n : Nat) (m' m2 : Mz) : Prop where
  pre : ∀ (k : Nat) (a : Addr), k < n → m'.m[k]? = some a → m2.m[k]? = some a
  out : ∀ b, m'.out b → m2.out b
mutual
theorem RD.down {n : Nat} (s : Dn n m' m2) : ∀ {d : D} {v : V}, RD K m' H d v → d.bel n = true → RD K m2 H d v
  | _, _, .non, _ => .non
  | _, _, .bl b, _ => .bl b
  | _, _, .int i, _ => .int i
  | _, _, .str x, _ => .str x
  | _, _, .tup h r, c => .tup h (RDs.down s r (by simpa only [D.bel] using c))
  | _, _, .lst h n r, c => .lst h (s.out _ n) (RDs.down s r (by simpa only [D.bel] using c))
  | _, _, .scr h, _ => .scr h
  | _, _, .ref h, c => .ref (s.pre _ _ (by simpa only [D.bel, decide_eq_true_eq] using c) h)
theorem RDs.down {n : Nat} (s : Dn n m' m2) : ∀ {ds : List D} {vs : List V}, RDs K m' H ds vs → D.bels n ds = true → RDs K m2 H ds vs
  | _, _, .nil, _ => .nil
  | _, _, .cons a b, c => by
    simp only [D.bels, Bool.and_eq_true] at c
    exact .cons (RD.down s a c.1) (RDs.down s b c.2)
end
theorem pre_len (s : Stp m H m' H') : m.m.length ≤ m'.m.length := by
  by_cases z : m.m.length = 0
  · omega
  · have l : m.m.length - 1 < m.m.length := by omega
    have q := s.pre _ _ (List.getElem?_eq_getElem l)
    have := (List.getElem?_eq_some_iff.mp q).1
    omega
theorem dn_of (s : Stp m H m' H') : Dn m.m.length m' m where
  pre := fun k a hk e => by
    have q := s.pre _ _ (List.getElem?_eq_getElem hk)
    rw [q] at e
    cases e
    exact List.getElem?_eq_getElem hk
  out := fun b hb => ⟨fun z => by
    obtain ⟨k, hk⟩ := List.mem_iff_getElem?.mp z
    exact hb.1 (List.mem_of_getElem? (s.pre _ _ hk)), by rw [← s.zz]; exact hb.2⟩
theorem stp_down (s : Stp m H m' H') : Stp m H m H' where
  keep := fun b o n e => ⟨(s.keep b o n e).1, n⟩
  tups := s.tups
  frzs := s.frzs
  pre := fun _ _ e => e
  there := s.there
  zz := rfl
  zk := fun b o h1 h2 e => ⟨(s.zk b o h1 h2 e).1, h2⟩
theorem old_bel (rh : RH K m H h) (ok : oldOk h h') {k : Nat} {ao : AO} (hk : k < h.length) (e : h'[k]? = some ao) : ao.bel h.length = true := by
  rcases ok k ao hk e with q | q
  · have l : k < m.m.length := by rw [rh.len]; exact hk
    have z := rh.ob k _ ao (List.getElem?_eq_getElem l) q
    cases ao with
    | lst ds =>
      obtain ⟨vs, _, r⟩ := z
      have := r.belN
      rw [rh.len] at this
      exact this
    | dic _ => exact z.elim
  · exact q
theorem rob_down {n : Nat} (s : Dn n m' m2) {a : Addr} {ao : AO} (r : ROb K m' H a ao) (hb : ao.bel n = true) : ROb K m2 H a ao := by
  cases ao with
  | lst ds => obtain ⟨vs, e, r⟩ := r; exact ⟨vs, e, r.down s hb⟩
  | dic _ => exact r
theorem rh_down (s : Stp m H m' H') (rh : RH K m H h) (rh' : RH K m' H' h') (ok : oldOk h h') : RH K m H' (h'.take h.length) where
  len := by
    have := pre_len s
    rw [rh.len, rh'.len] at this
    rw [List.length_take, rh.len, Nat.min_eq_left this]
  nd := rh.nd
  zs := fun b hb => by
    obtain ⟨n, o, e⟩ := rh.zs b hb
    exact ⟨n, s.there b o e⟩
  ob := fun k a ao e1 e2 => by
    have l : k < h.length := by rw [← rh.len]; exact (List.getElem?_eq_some_iff.mp e1).1
    rw [List.getElem?_take, if_pos l] at e2
    have d := dn_of s
    rw [rh.len] at d
    exact rob_down d (rh'.ob k a ao (s.pre _ _ e1) e2) (old_bel rh ok l e2)
mutual
theorem RD.frz (s : Stp m H m' H') (rh : RH K m H h) (rh' : RH K m' H' h') : ∀ {d d' : D} {v : V}, RD K m' H' d v → freeze h.length h' d = some d' → RD K m H' d' v
  | _, _, _, .non, e => by simp only [freeze] at e; cases e; exact .non
  | _, _, _, .bl b, e => by simp only [freeze] at e; cases e; exact .bl b
  | _, _, _, .int i, e => by simp only [freeze] at e; cases e; exact .int i
  | _, _, _, .str x, e => by simp only [freeze] at e; cases e; exact .str x
  | _, _, _, .tup hh r, e => by
    simp only [freeze, Option.map_eq_some_iff] at e
    obtain ⟨ds, q, rfl⟩ := e
    exact .tup hh (RDs.frz s rh rh' r q)
  | _, _, _, .lst hh n r, e => by
    simp only [freeze, Option.map_eq_some_iff] at e
    obtain ⟨ds, q, rfl⟩ := e
    exact .lst hh ((dn_of s).out _ n) (RDs.frz s rh rh' r q)
  | _, _, _, .scr hh, e => by simp only [freeze] at e; cases e; exact .scr hh
  | _, _, _, .ref (n := k) (a := a) hh, e => by
    simp only [freeze] at e
    have d := dn_of s
    split at e
    · rename_i hk
      cases e
      rw [← rh.len] at hk
      exact .ref (d.pre _ _ hk hh)
    · rename_i hk
      split at e
      · rename_i xs q
        split at e
        · rename_i hb
          cases e
          obtain ⟨vs, e1, r⟩ := rh'.ob _ _ _ hh q
          rw [rh.len] at d
          refine .lst e1 ⟨fun z => ?_, fun z => ?_⟩ (r.down d hb)
          · obtain ⟨j, hj⟩ := List.mem_iff_getElem?.mp z
            have lj : j < h.length := by rw [← rh.len]; exact (List.getElem?_eq_some_iff.mp hj).1
            have q2 := s.pre _ _ hj
            have : j = k := (List.getElem?_inj (List.getElem?_eq_some_iff.mp q2).1 rh'.nd).mp (q2.trans hh.symm)
            omega
          · rw [← s.zz] at z
            exact (rh'.zs _ z).1 (List.mem_of_getElem? hh)
        · cases e
      · cases e
theorem RDs.frz (s : Stp m H m' H') (rh : RH K m H h) (rh' : RH K m' H' h') : ∀ {ds ds' : List D} {vs : List V}, RDs K m' H' ds vs → freezes h.length h' ds = some ds' → RDs K m H' ds' vs
  | _, _, _, .nil, e => by simp only [freezes] at e; cases e; exact .nil
  | _, _, _, .cons a b, e => by
    simp only [freezes] at e
    split at e
    · rename_i q1 q2
      cases e
      exact .cons (RD.frz s rh rh' a q1) (RDs.frz s rh rh' b q2)
    · cases e
end
theorem fin_ok {keep : Bool} {d d' : D} {v : V} {h2 : AH} (s : Stp m H m' H') (rh : RH K m H h) (rh' : RH K m' H' h') (rd : RD K m' H' d v) (e : fin keep h h' d = some (d', h2)) : ∃ m2, Stp m H m2 H' ∧ RH K m2 H' h2 ∧ RD K m2 H' d' v := by
  unfold fin at e
  split at e
  · cases e
    exact ⟨m', s, rh', rd⟩
  · split at e
    · rename_i ok
      split at e
      · split at e
        · rename_i k
          split at e
          · rename_i hk
            split at e
            · rename_i ao q
              split at e
              · rename_i hb
                cases e
                cases rd with
                | ref hh =>
                rename_i a
                have am : a ∈ m'.m := List.mem_of_getElem? hh
                have an : a ∉ m.m := fun z => by
                  obtain ⟨j, hj⟩ := List.mem_iff_getElem?.mp z
                  have lj : j < h.length := by rw [← rh.len]; exact (List.getElem?_eq_some_iff.mp hj).1
                  have q2 := s.pre _ _ hj
                  have : j = k := (List.getElem?_inj (List.getElem?_eq_some_iff.mp q2).1 rh'.nd).mp (q2.trans hh.symm)
                  omega
                have d1 := dn_of s
                rw [rh.len] at d1
                have hl : h.length ≤ h'.length := by have := pre_len s; rw [rh.len, rh'.len] at this; exact this
                have dp : Dn h.length m' (m.push a) := ⟨fun k b hk e => by
                  have z := d1.pre k b hk e
                  show (m.m ++ [a])[k]? = some b
                  rw [List.getElem?_append_left (List.getElem?_eq_some_iff.mp z).1]
                  exact z, fun b hb => ⟨fun z => by
                    rcases List.mem_append.mp z with z | z
                    · exact (d1.out b hb).1 z
                    · rw [List.mem_singleton] at z; subst z; exact hb.1 am, (d1.out b hb).2⟩⟩
                refine ⟨m.push a, ⟨⟨fun b o n e => ⟨(s.keep b o n e).1, dp.out b (s.keep b o n e).2⟩, s.tups, s.frzs, fun k b e => ?_⟩, s.there, rfl, fun b o h1 h2 e => ⟨(s.zk b o h1 h2 e).1, fun z => ?_⟩⟩, ⟨?_, ?_, fun b hb => ?_, fun k b o e1 e2 => ?_⟩, .ref ?_⟩
                · show (m.m ++ [a])[k]? = some b
                  rw [List.getElem?_append_left (List.getElem?_eq_some_iff.mp e).1]
                  exact e
                · rcases List.mem_append.mp z with z | z
                  · exact h2 z
                  · rw [List.mem_singleton] at z; subst z; exact (s.zk b o h1 h2 e).2 am
                · show (m.m ++ [a]).length = (h'.take h.length ++ [ao]).length
                  rw [List.length_append, List.length_append, List.length_take, rh.len, Nat.min_eq_left hl] <;> rfl
                · show (m.m ++ [a]).Nodup
                  rw [List.nodup_append]
                  exact ⟨rh.nd, by simp, fun x hx y hy z => by rw [List.mem_singleton] at hy; subst hy; subst z; exact an hx⟩
                · obtain ⟨n, o, e⟩ := rh.zs b hb
                  refine ⟨fun z => ?_, s.there b o e⟩
                  rcases List.mem_append.mp z with z | z
                  · exact n z
                  · rw [List.mem_singleton] at z; subst z; exact (s.zk b o hb n e).2 am
                · have e1 : (m.m ++ [a])[k]? = some b := e1
                  by_cases hk2 : k < h.length
                  · rw [List.getElem?_append_left (by rw [rh.len]; exact hk2)] at e1
                    rw [List.getElem?_append_left (by rw [List.length_take, Nat.min_eq_left hl]; exact hk2), List.getElem?_take, if_pos hk2] at e2
                    exact rob_down dp (rh'.ob k b o (s.pre _ _ e1) e2) (old_bel rh ok hk2 e2)
                  · have l2 := (List.getElem?_eq_some_iff.mp e1).1
                    rw [List.length_append, rh.len] at l2
                    have : k = h.length := by simp at l2; omega
                    subst this
                    rw [← rh.len, List.getElem?_append_right (Nat.le_refl _), Nat.sub_self] at e1
                    rw [List.getElem?_append_right (by rw [List.length_take, Nat.min_eq_left hl] <;> exact Nat.le_refl _), List.length_take, Nat.min_eq_left hl, Nat.sub_self] at e2
                    simp at e1 e2
                    subst e1
                    subst e2
                    exact rob_down dp (rh'.ob _ _ _ hh q) hb
                · show (m.m ++ [a])[h.length]? = some a
                  rw [← rh.len, List.getElem?_append_right (Nat.le_refl _), Nat.sub_self] <;> rfl
              · cases e
            · cases e
          · cases e
        · cases e
      · simp only [Option.map_eq_some_iff, Prod.mk.injEq] at e
        obtain ⟨d2, q, rfl, rfl⟩ := e
        exact ⟨m, stp_down s, rh_down s rh rh' ok, rd.frz s rh rh' q⟩
    · cases e
theorem re_start {N : List Str} {slots : Nat} {ds : List D} {vs : List V} (hN : N.length = slots) (r : RDs K m H ds vs) : RE K m H (L2.start N vs) (ds.map some ++ List.replicate (slots - ds.length) none) where
  len := by
    unfold L2.start
    rw [List.length_append, List.length_append, List.length_map, List.length_map, List.length_replicate, List.length_replicate, r.length, hN]
  at_ := fun i d e => by
    unfold L2.start
    by_cases hi : i < ds.length
    · rw [List.getElem?_append_left (by rw [List.length_map]; exact hi), List.getElem?_map, Option.map_eq_some_iff] at e
      obtain ⟨d', e1, e2⟩ := e
      cases e2
      obtain ⟨v, h1, h2⟩ := r.get e1
      refine ⟨v, ?_, h2⟩
      rw [List.getElem?_append_left (by rw [List.length_map, ← r.length]; exact hi), List.getElem?_map, h1] <;> rfl
    · rw [List.getElem?_append_right (by rw [List.length_map]; omega)] at e
      have := List.mem_of_getElem? e
      rw [List.mem_replicate] at this
      cases this.2
end
/-- what is known of a def of the module -/
structure FnD (P : Program) (w : World) (K : PySem.W.Frag) (mg : Str → Option Value) (T : List (Str × Fn)) (B : Inf) (x : Str) (ps : List Str) (kbs : List (Nat × List Str × List Nat)) : Prop where
  ex : ∃ (fa : Addr) (fd : FuncData) (st : Stmt) (qual : Str) (N : List Str) (F : Fn), Fun K x qual st fa fd ∧ FnScope N ps (defScope st) ∧ mg x = some (.ref fa) ∧ PySem.W.keepIn K (.ref fa) = true ∧ Binds K fd ps [] ∧
    (∀ q ∈ kbs, KBn K fd ps q.1 q.2.1 (pick q.2.2) (pick q.2.2)) ∧ T.lookup x = some F ∧ F.ps = ps.length ∧ N.length = F.slots ∧ okSs { B with N := N } (defScope st) F.body (defBody st) = true
/-- what the module gives -/
structure Rw (P : Program) (w : World) (K : PySem.W.Frag) (mg : Str → Option Value) (base : Heap) (T : List (Str × Fn)) (B : Inf) : Prop where
  fn : ∀ q ∈ B.fns, FnD P w K mg T B q.1 q.2.1 q.2.2
  gc : ∀ q ∈ B.gcs, ∃ u v, mg q.1 = some u ∧ RelV v u ∧ ∀ m H, RD K m H q.2 v
  bl : ∀ x ∈ B.blts, mg x = none
  gcd : B.gcdN = true → mg "gcd" = some (.builtin "math.gcd")
  seer : base.NoSeer
  tree : P.given.tree = none
/-- a def by its body -/
theorem gd_body {P : Program} {w : World} {K : PySem.W.Frag} {mg : Str → Option Value} {base : Heap} {x qual : Str} {st : Stmt} {fa : Addr} {fd : FuncData} {N ps : List Str} {lv : Nat} {sp : Sp} (F : Fun K x qual st fa fd) (S : FnScope N ps (defScope st))
    (size : ∀ vs H Q, sp vs H Q E0 → vs.length = ps.length)
    (body : ∀ (cd : Value) (A : Around) (outer : List Env) (s : Shared) (H : Hp) (vs : List V) (Q : VK), A.guards = some [] → Room lv (A.deeper (envOfC qual (defScope st) s.heap.objs.size fa cd)) → sp vs H Q E0 →
      ∃ t, PSs (cxOf CX0 P w K mg base N qual (defScope st) fa cd A outer s H E0).nox (defBody st) t ∧ t { nx := fun _ H' => Q .non H', rt := Q } (start N vs) H) : Gd P w K mg base (lv + 1) fa fd ps sp := by
  obtain ⟨oc, od, kV, doc, pm, an, cd, ct, osl, rfl, look, code⟩ := F.ex
  refine ⟨size, fun A outer s H gv us vs Q gr rm e0 bt r q => ?_⟩
  have keeps : ∀ b o, base.get? b = some o → s.heap.get? b = some o := fun b o e => (e0.bs b o e).1
  have inK : K.In s.heap := e0.mod.kin.keeps keeps
  have free : s.heap.NoLimit := e0.mod.nolimit.keeps keeps
  obtain ⟨t, ht, hq⟩ := body cd A outer s H vs Q gr (rm.deeper _) q
  have kinds : ∀ y ∈ ps.zip us, (defScope st).names.lookup y.1 = some .local ∨ ((defScope st).names.lookup y.1 = some .cell ∧ ((cellsFrom (s.heap.objs.size + 1) (defScope st).names []).lookup y.1).isSome = true) := by
    intro y hy
    obtain ⟨nm, v⟩ := y
    rcases S.par nm (List.of_mem_zip hy).1 with k | k
    · exact Or.inl k
    · exact Or.inr ⟨k, PySem.W.cellsFrom_some _ _ _ (.inl k)⟩
  refine codeAny_call_function rm.depth (inK _ _ look) rfl S.co S.gen rfl (PySem.W.codeRec_of inK code) (bt _ _ _ _ ?_)
  refine wpAny_newFunctionEnv_cells S.kind kinds fun env ee s1 ic => ?_
  subst ee
  refine ⟨free.keeps ic.toInCall.keep, codeAny_func ?_⟩
  have I : Inv (cxOf CX0 P w K mg base N qual (defScope st) fa cd A outer s H E0) [] (start N vs) H s1 := inv_start S rm.hd e0 (size _ _ _ q) r ic
  have ends : ∀ {σ' : L2.St} {H' : Hp} {s' : Shared} {v : V} {u : Value}, Inv (cxOf CX0 P w K mg base N qual (defScope st) fa cd A outer s H E0) [] σ' H' s' → RelV v u → Q v H' → CE outer P w H s Q u s' := by
    intro σ' H' s' v u J rv z
    exact ⟨v, H', J.os, J.bare, J.base, J.hok, rv, z⟩
  refine wpAny_mono (ht.nox.run [] s1 (start N vs) H _ I hq) (fun fl s' back => ?_) fun _ _ z => z
  match fl, back with
  | .ret u, ⟨v, σ', H', J, rv, z⟩ => exact ends J rv z
  | .next, ⟨σ', H', J, z⟩ => exact ends (v := V.non) (u := Value.none) J rfl z
  | .brk, ⟨_, _, _, z⟩ => exact z.elim
  | .cont, ⟨_, _, _, z⟩ => exact z.elim
theorem fun_at {K : PySem.W.Frag} {x qual : Str} {st : Stmt} {fa : Addr} {fd : FuncData} (F : Fun K x qual st fa fd) : ∃ o, K.lookup fa = some o ∧ o.data = .func fd := by
  obtain ⟨oc, od, kV, doc, pm, an, cd, ct, osl, rfl, look, code⟩ := F.ex
  exact ⟨_, look, rfl⟩
theorem fn_lvl {P : Program} {w : World} {K : PySem.W.Frag} {mg : Str → Option Value} {base : Heap} {T : List (Str × Fn)} {B : Inf} (R : Rw P w K mg base T B) (n : Nat) : ∀ (k : Nat) (x : Str) (ps : List Str) (kbs : List (Nat × List Str × List Nat)),
    (x, ps, kbs) ∈ B.fns → ∃ (fa : Addr) (fd : FuncData), Gd P w K mg base (k + 100) fa fd ps (spF K (cF T n k) x) ∧ mg x = some (.ref fa) ∧ PySem.W.keepIn K (.ref fa) = true ∧ Binds K fd ps [] ∧ (∀ q ∈ kbs, KBn K fd ps q.1 q.2.1 (pick q.2.2) (pick q.2.2)) ∧ ∃ o, K.lookup fa = some o ∧ o.data = .func fd := by
  intro k
  induction k with
  | zero =>
    intro x ps kbs hx
    obtain ⟨fa, fd, st, qual, N, F, f1, f2, f3, f4, f5, f6, f7, f8, f9, f10⟩ := (R.fn _ hx).ex
    have none0 : ∀ vs H Q E, ¬ spF K (cF T n 0) x vs H Q E := fun vs H Q E ⟨m, h, ds, d, h', _, _, e, _⟩ => by cases e
    exact ⟨fa, fd, ⟨fun vs H Q q => absurd q (none0 _ _ _ _), fun A outer s H gv us vs Q _ _ _ _ _ q => absurd q (none0 _ _ _ _)⟩, f3, f4, f5, f6, fun_at f1⟩
  | succ k ih =>
    intro x ps kbs hx
    obtain ⟨fa, fd, st, qual, N, F, f1, f2, f3, f4, f5, f6, f7, f8, f9, f10⟩ := (R.fn _ hx).ex
    refine ⟨fa, fd, ?_, f3, f4, f5, f6, fun_at f1⟩
    show Gd P w K mg base (k + 1 + 100) fa fd ps _
    rw [show k + 1 + 100 = (k + 100) + 1 by omega]
    refine gd_body f1 f2 (fun vs H Q ⟨m, h, ds, d, h', r, _, e, _⟩ => ?_) fun cdv A outer s H vs Q gr hr hs => ?_
    · simp only [cF, f7] at e
      split at e
      · rename_i hl
        rw [← r.length, hl, f8]
      · cases e
    · obtain ⟨m, h, ds, d, h', r, rh, e, P⟩ := hs
      simp only [cF, f7] at e
      split at e
      · rename_i hl
        refine ⟨tS K (dSs (cF T n k) n F.body), snd_ss F.body n (I := { B with N := N }) (sc := defScope st) (cf := cF T n k) ⟨⟨⟨rfl, gr, f2.nd, hr.mono (by omega), R.seer, R.tree, ⟨_, _, rfl, f2.gen, f2.co, rfl, rfl⟩⟩, rfl, fun q hq => ?_, R.gc, R.bl, R.gcd, fun y hy => vis_ok hy, fun y hy => ⟨loc_ok hy, .inl rfl⟩, fun y hy => glb_ok hy, fun y hy => hy⟩, PassesOwn.never, f2.kind, rfl⟩ f10, ?_⟩
        · obtain ⟨fa', fd', g1, g2, g3, g4, g5, _⟩ := ih q.1 q.2.1 q.2.2 hq
          exact ⟨fa', fd', k + 100, gr, g1, hr, g2, g3, g4, g5⟩
        · unfold run at e
          split at e
          · rename_i e1 h1 q1
            refine ⟨m, _, h, _, re_start f9 r, rh, q1, fun σ' H' m' s1 rh1 re1 => ?_⟩
            obtain ⟨m2, s2, rh2, rd2⟩ := fin_ok s1 rh rh1 .non e
            exact P _ H' m2 s2 rh2 rd2
          · rename_i d1 h1 q1
            refine ⟨m, _, h, _, re_start f9 r, rh, q1, fun v H' m' s1 rh1 rd1 => ?_⟩
            obtain ⟨m2, s2, rh2, rd2⟩ := fin_ok s1 rh rh1 rd1 e
            exact P _ H' m2 s2 rh2 rd2
          · cases e
      · cases e
end Ev
/-! Ev part O: the end of a row. -/
namespace Ev
open PySem PySem.Spec PyProof.Rows L2

/-- what is tracked at the start: the script, where the module's part does not hold it -/
def scH (K : PySem.W.Frag) (a : Addr) (o : Obj) (xs : List V) : Hp := fun b => if b = a ∧ K.lookup a = none then some (.frz o (.lst xs)) else none
theorem scH_some {K : PySem.W.Frag} {a b : Addr} {o : Obj} {xs : List V} {u : HO} (e : scH K a o xs b = some u) : b = a ∧ K.lookup a = none ∧ u = .frz o (.lst xs) := by
  unfold scH at e
  split at e
  · rename_i c
    cases e
    exact ⟨c.1, c.2, rfl⟩
  · cases e
theorem scH_none {K : PySem.W.Frag} {a b : Addr} {o : Obj} {xs : List V} (h : b ≠ a ∨ K.lookup a ≠ none) : scH K a o xs b = none := by
  unfold scH
  rw [if_neg]
  rintro ⟨h1, h2⟩
  rcases h with q | q
  · exact q h1
  · exact q h2
section
variable {P : Program} {w : World} {K : PySem.W.Frag} {mg mb : Str → Option Value} {s₁ : Shared} {a : Addr} {vs : List Value} {ns : List Int}
/-- an object that is no list stays in what a def may lean on -/
theorem base_keep {h : Heap} {o : Obj} {xs : List V} (ha : h.get? a = some o) {b : Addr} {u : Obj} (e : h.get? b = some u) (hn : u ≠ o) : (hidT h (scH K a o xs)).get? b = some u := by
  refine hidT_get e (scH_none (.inl fun z => ?_))
  rw [z, ha] at e
  exact hn (Option.some.inj e).symm
theorem ns_keep {h : Heap} {xs : List V} (ha : h.get? a = some { cls := .type "list", data := .seq vs.toArray }) {b : Addr} {m : Str → Option Value} (q : h.Ns b m) : (hidT h (scH K a { cls := .type "list", data := .seq vs.toArray } xs)).Ns b m := by
  obtain ⟨u, es, ep, e, d, r⟩ := q
  refine ⟨u, es, ep, base_keep ha e ?_, d, r⟩
  rintro rfl
  cases d
theorem seer_keep {h : Heap} {xs : List V} (ha : h.get? a = some { cls := .type "list", data := .seq vs.toArray }) (q : h.NoSeer) : (hidT h (scH K a { cls := .type "list", data := .seq vs.toArray } xs)).NoSeer where
  statics := by
    obtain ⟨m, h1, h2⟩ := q.statics
    exact ⟨m, ns_keep ha h1, h2⟩
  mods := by
    obtain ⟨m, h1, h2⟩ := q.mods
    exact ⟨m, ns_keep ha h1, h2⟩
  imp := by
    obtain ⟨m, h1, h2⟩ := q.imp
    exact ⟨m, ns_keep ha h1, h2⟩
  main := by
    obtain ⟨m, bm, ob, h1, h2, h3, h4, h5⟩ := q.main
    refine ⟨m, bm, ob, ns_keep ha h1, h2, base_keep ha h3 ?_, h4, h5⟩
    rintro rfl
    cases h5
/-- the law's call, from its def's promise -/
theorem ev_call {k lv n : Nat} {fa : Addr} {fd : FuncData} {x f : Str} {T : List (Str × Fn)} {h' : AH} (KX : K.In s₁.heap) (gns : s₁.heap.Ns mainGlobals mg) (bns : s₁.heap.Ns builtinsNs mb) (bb : ∀ x : Str, x ≠ "__name__" → mb x = bootBuiltins x)
    (free : s₁.heap.NoLimit) (seer : s₁.heap.NoSeer) (gens : s₁.gens = #[]) (ha : s₁.heap.get? a = some { cls := .type "list", data := .seq vs.toArray }) (hi : IntsAre vs ns) (hl : ns.length ≤ sizeLine) (rm : Room lv callerA)
    (F : ∀ base : Heap, K.In base → base.Ns mainGlobals mg → base.NoSeer → Gd P w K mg base lv fa fd [x] (spF K (cF T n k) f)) (bind : ∀ (s : Shared) (u : Value), BindsTo s fd ⟨[u], []⟩ [(x, u)])
    (val : cF T n k f [.scr ns] [] = some (.bl true, h')) :
    codeAny (model P w) callerA (.call (.ref fa) ⟨[.ref a], []⟩) (fun r s' => r = .ok (.ret (.bool true)) ∧ OldK s₁.heap s'.heap ∧ s'.os = s₁.os ∧ AllBare s'.gens) s₁ := by
  have rv : Vals (ns.map V.int) vs := vals_ints hi
  have lv2 : vs.length = ns.length := by rw [← rv.length, List.length_map]
  let ob : Obj := { cls := .type "list", data := .seq vs.toArray }
  have hob : s₁.heap.get? a = some ob := ha
  let H : Hp := scH K a ob (ns.map V.int)
  have inB : K.In (hidT s₁.heap H) := fun b o e => by
    refine hidT_get (KX b o e) (scH_none ?_)
    by_cases z : b = a
    · refine .inr fun q => ?_
      rw [z, q] at e
      cases e
    · exact .inl z
  have nsB := ns_keep (K := K) (xs := ns.map V.int) ha gns
  have modB : Mod K mg (hidT s₁.heap H) := by
    obtain ⟨mc, c1, c2⟩ := free
    exact ⟨inB, nsB, ⟨mb, ns_keep ha bns, bb⟩, ⟨mc, ns_keep ha c1, c2⟩⟩
  have hok : HOk P w H s₁.heap := fun b u e => by
    obtain ⟨rfl, h2, rfl⟩ := scH_some e
    exact ⟨hob, by rw [List.length_map]; exact hl, vs, _, rv, hob⟩
  have seq : SqF K H a (ns.map V.int) := by
    by_cases z : K.lookup a = none
    · exact .inl ⟨ob, if_pos ⟨rfl, z⟩⟩
    · obtain ⟨o, eo⟩ := Option.ne_none_iff_exists'.mp z
      have q := KX a o eo
      rw [hob] at q
      cases q
      exact .inr ⟨ob, vs.toArray, 0, eo, rfl, rfl, rfl, by rw [List.size_toArray, lv2]; exact hl, by simpa using rv⟩
  have env : Env0 P w K mg (hidT s₁.heap H) callerA [] s₁ H := by
    refine ⟨rfl, modB, fun b o e => of_hidT e, Nat.le_of_eq (hidT_size _ _), trivial, fun b hb => ?_, hok, .of_eq gens⟩
    cases hb
  have prom : spF K (cF T n k) f [.ref a] H (fun v _ => v = .bl true) E0 := by
    refine ⟨⟨[], []⟩, [], [.scr ns], .bl true, h', .cons (.scr seq) .nil, ⟨rfl, List.nodup_nil, fun b hb => absurd hb List.not_mem_nil, fun i b o e => by simp at e⟩, val, fun v H' m' _ _ rd => ?_⟩
    cases rd
    rfl
  have run := (F _ inB nsB (seer_keep ha seer)).go callerA [] s₁ H ⟨[.ref a], []⟩ [.ref a] [.ref a] _ rfl rm env (bind s₁ (.ref a)) (.cons rfl .nil) prom
  refine codeAny_mono run fun r s' back => ?_
  match r, back with
  | .ok (.ret u), ⟨v, H', os, bare, un, hok', ru, q⟩ =>
    subst q
    have eu : u = Value.bool true := ru
    subst eu
    refine ⟨rfl, OldK.of_keep fun b o e => ?_, os, bare⟩
    by_cases z : H b = none
    · refine un.keep b o e z (fun c => ?_) (by simp)
      cases c
    · obtain ⟨u, eu⟩ := Option.ne_none_iff_exists'.mp z
      obtain ⟨rfl, h2, rfl⟩ := scH_some eu
      have z2 := un.frzs b ob _ eu
      obtain ⟨e2, _⟩ := hok' b _ z2
      rw [hob] at e
      cases e
      exact e2
end
theorem ev_walk {l : PySem.W.OpenLaw} {n N k lv : Nat} {q : Program} {loose : List Str} {XP : (Str → Option Value) → Heap → Prop} {YP : World → Heap → Prop} {d : DefRec} {K : Params → PySem.W.Frag} {x f : Str} {T : List (Str × Fn)}
    (hn : l.most = some n) (hn2 : n ≤ sizeLine) (hdf : d.params.defaults = []) (rm : Room lv callerA) (hq : importsNone q = true) (hY : ∀ (w : World) (h : Heap), YP w h → (K w.params).In h)
    (F : ∀ (w : World) (mg : Str → Option Value) (fa : Addr) (h : Heap), (K w.params).In h → h.Ns mainGlobals mg → mg d.name = some (.ref fa) →
      ∃ fd : FuncData, (∀ (s : Shared) (u : Value), BindsTo s fd ⟨[u], []⟩ [(x, u)]) ∧ ∀ base : Heap, (K w.params).In base → base.Ns mainGlobals mg → base.NoSeer → Gd l.prog w (K w.params) mg base lv fa fd [x] (spF (K w.params) (cF T N k) f))
    (val : ∀ ns : List Int, ns.length ≤ n → (∀ z ∈ ns, Builtin.Int.intBits z ≤ 1048576) → ∃ h', cF T N k f [.scr ns] [] = some (.bl true, h')) : PySem.W.WalkO q loose XP YP l.row.toRowW d [] (fun f vs => PySem.call f vs) := by
  refine Att.attach_callB hn hdf fun w s₀ s₁ mg mb fa o pm cd doc a vs ns G Y ho hd hcd hmg hobj hints hlen hbits hg => ?_
  obtain ⟨fd, bind, gd⟩ := F w mg fa _ (hY w _ Y) G.T.g hmg
  obtain ⟨h', v⟩ := val ns hlen hbits
  exact ev_call (hY w _ Y) G.T.g G.T.b G.T.builtins G.T.nolimit (G.T.seer hq) hg hobj hints (Nat.le_trans hlen hn2) rm gd bind v
end Ev
/-! Ev part P: what a row's text hands in. -/
namespace Ev
open PySem PySem.Spec PyProof.Rows L2

theorem vals_pick {vs zs : List V} {us ws : List Value} (r : Vals vs us) (q : Vals zs ws) : ∀ perm : List Nat, Vals (pick perm vs zs) (pick perm us ws)
  | [] => .nil
  | i :: r' => by
    have z := r.append q
    have ih := vals_pick r q r'
    have hl := z.length
    unfold pick at ih ⊢
    rw [List.filterMap_cons, List.filterMap_cons]
    cases e : (vs ++ zs)[i]? with
    | none =>
      have e2 : (us ++ ws)[i]? = none := by
        rw [List.getElem?_eq_none_iff] at e ⊢
        omega
      rw [e2]
      exact ih
    | some v =>
      obtain ⟨u, e2, ru⟩ := z.get e
      rw [e2]
      exact .cons ru ih
/-- the check of a def -/
def okD (B : Inf) (T : List (Str × Fn)) (x : Str) (N ps : List Str) (st : Stmt) : Bool :=
  scD N ps (defScope st) && (match T.lookup x with | some F => decide (F.ps = ps.length) && decide (N.length = F.slots) && okSs { B with N := N } (defScope st) F.body (defBody st) | none => false)
where scD (N Q : List Str) (z : Scope) : Bool :=
  (decide (N.Nodup) && decide (N.take Q.length = Q)) && (decide (z.kind = .function) && (!z.isGenerator && !z.isCoroutine)) && ((Q.all fun y => decide (z.names.lookup y = some .local) || decide (z.names.lookup y = some .cell)) && z.names.all fun y => !decide (y.2 = .free))
theorem scD_ok {N P : List Str} {sc : Scope} (h : okD.scD N P sc = true) : FnScope N P sc := by
  unfold okD.scD at h
  simp only [List.all_eq_true, Bool.or_eq_true, Bool.not_eq_true', Bool.and_eq_true, decide_eq_true_eq, decide_eq_false_iff_not] at h
  obtain ⟨⟨⟨n1, n2⟩, k1, k2, k3⟩, v1, v2⟩ := h
  exact ⟨k1, k3, k2, n1, n2, v1, v2⟩
section
variable {P : Program} {w : World} {K : PySem.W.Frag} {h : Heap} {mg : Str → Option Value} {T : List (Str × Fn)} {B : Inf}
theorem fnD_mk (KX : K.In h) (G : h.Ns mainGlobals mg) {x : Str} {N ps : List Str} {st : Stmt} {fa : Addr} {oc : Value} {od an : Option Addr} {osl : Array (Option Value)} {kV dc pm cd ct : Value} {kbs : List (Nat × List Str × List Nat)}
    (chk : okD B T x N ps st = true)
    (bind : ∀ (kV dc pm : Value) (an : Option Addr) (cd ct : Value) (us : List Value), us.length = ps.length → bindArgs (PySem.W.fnOf x x (defArgs st) (defBody st) (defScope st) .none kV dc pm an cd ct) ⟨us, []⟩ = pure (ps.zip us))
    (keys : ∀ q ∈ kbs, ∀ (kV dc pm : Value) (an : Option Addr) (cd ct : Value) (us ws : List Value), us.length = q.1 → ws.length = q.2.1.length → bindArgs (PySem.W.fnOf x x (defArgs st) (defBody st) (defScope st) .none kV dc pm an cd ct) ⟨us, q.2.1.zip ws⟩ = pure (ps.zip (pick q.2.2 us ws)))
    (a : PySem.W.nsIn K mainGlobals x = some (some (.ref fa))) (l : K.lookup fa = some ⟨oc, od, .func (PySem.W.fnOf x x (defArgs st) (defBody st) (defScope st) .none kV dc pm an cd ct), osl⟩) (c : PySem.W.codeIn K cd x = true) (k : PySem.W.keepIn K (.ref fa) = true) :
    FnD P w K mg T B x ps kbs := by
  have F := fun_mk (x := x) (qual := x) (st := st) l c k
  unfold okD at chk
  rw [Bool.and_eq_true] at chk
  obtain ⟨c1, c2⟩ := chk
  split at c2
  · rename_i F0 q
    simp only [Bool.and_eq_true, decide_eq_true_eq] at c2
    exact ⟨fa, _, st, x, N, F0, F, scD_ok c1, PySem.W.mg_of KX G a, k, F.binds bind, fun q hq => ⟨fun s us ws X l1 l2 => .of_eq (keys q hq _ _ _ _ _ _ us ws l1 l2), fun r1 r2 => vals_pick r1 r2 _⟩, q, c2.1.1, c2.1.2, c2.2⟩
  · cases c2
theorem fns_nil : ∀ q ∈ ([] : List (Str × List Str × List (Nat × List Str × List Nat))), FnD P w K mg T B q.1 q.2.1 q.2.2 := fun q hq => by cases hq
theorem fns_cons {x : Str} {ps : List Str} {kbs : List (Nat × List Str × List Nat)} {r : List (Str × List Str × List (Nat × List Str × List Nat))} (d : FnD P w K mg T B x ps kbs) (h : ∀ q ∈ r, FnD P w K mg T B q.1 q.2.1 q.2.2) : ∀ q ∈ (x, ps, kbs) :: r, FnD P w K mg T B q.1 q.2.1 q.2.2 := fun q hq => by
  rcases List.mem_cons.mp hq with e | e
  · subst e; exact d
  · exact h q e
theorem bl_nil : ∀ x ∈ ([] : List Str), mg x = none := fun q hq => by cases hq
theorem bl_cons (KX : K.In h) (G : h.Ns mainGlobals mg) {x : Str} {r : List Str} (z : PySem.W.nsIn K mainGlobals x = some none) (h : ∀ x ∈ r, mg x = none) : ∀ y ∈ x :: r, mg y = none := fun q hq => by
  rcases List.mem_cons.mp hq with e | e
  · subst e; exact PySem.W.mg_none_of KX G z
  · exact h q e
theorem gc_nil : ∀ q ∈ ([] : List (Str × D)), ∃ u v, mg q.1 = some u ∧ RelV v u ∧ ∀ m H, RD K m H q.2 v := fun q hq => by cases hq
theorem gc_int (KX : K.In h) (G : h.Ns mainGlobals mg) {x : Str} {i : Int} {t : Tok} {r : List (Str × D)} (z : PySem.W.nsIn K mainGlobals x = some (some (.int i t))) (h : ∀ q ∈ r, ∃ u v, mg q.1 = some u ∧ RelV v u ∧ ∀ m H, RD K m H q.2 v) :
    ∀ q ∈ (x, D.int i) :: r, ∃ u v, mg q.1 = some u ∧ RelV v u ∧ ∀ m H, RD K m H q.2 v := fun q hq => by
  rcases List.mem_cons.mp hq with e | e
  · subst e; exact ⟨_, .int i, PySem.W.mg_of KX G z, ⟨t, rfl⟩, fun _ _ => .int i⟩
  · exact h q e
theorem gc_pair (KX : K.In h) (G : h.Ns mainGlobals mg) {x : Str} {i j : Int} {t1 t2 : Tok} {a : Addr} {n : Nat} {sl : Array (Option Value)} {r : List (Str × D)} (z : PySem.W.nsIn K mainGlobals x = some (some (.ref a)))
    (l : K.lookup a = some ⟨.type "tuple", none, .seq #[.int i t1, .int j t2] n, sl⟩) (h : ∀ q ∈ r, ∃ u v, mg q.1 = some u ∧ RelV v u ∧ ∀ m H, RD K m H q.2 v) :
    ∀ q ∈ (x, D.tup [.int i, .int j]) :: r, ∃ u v, mg q.1 = some u ∧ RelV v u ∧ ∀ m H, RD K m H q.2 v := fun q hq => by
  rcases List.mem_cons.mp hq with e | e
  · subst e
    refine ⟨_, .ref a, PySem.W.mg_of KX G z, rfl, fun _ _ => .tup (vs := [.int i, .int j]) (.inr ⟨_, #[.int i t1, .int j t2], n, l, rfl, rfl, by show 2 ≤ sizeLine; decide, .cons ⟨t1, rfl⟩ (.cons ⟨t2, rfl⟩ .nil)⟩) (.cons (.int i) (.cons (.int j) .nil))⟩
  · exact h q e
theorem ev_F {N k : Nat} {fa : Addr} {f x : Str} {kbs : List (Nat × List Str × List Nat)} {st : Stmt} {oc : Value} {od an : Option Addr} {osl : Array (Option Value)} {kV dc pm cd ct : Value} (KX : K.In h) (G : h.Ns mainGlobals mg)
    (fns : ∀ q ∈ B.fns, FnD P w K mg T B q.1 q.2.1 q.2.2) (gc : ∀ q ∈ B.gcs, ∃ u v, mg q.1 = some u ∧ RelV v u ∧ ∀ m H, RD K m H q.2 v) (bl : ∀ x ∈ B.blts, mg x = none) (gcd : B.gcdN = true → PySem.W.nsIn K mainGlobals "gcd" = some (some (.builtin "math.gcd")))
    (tree : P.given.tree = none) (hm : (f, [x], kbs) ∈ B.fns) (hmg : mg f = some (.ref fa))
    (bind : ∀ (kV dc pm : Value) (an : Option Addr) (cd ct : Value) (v : Value), bindArgs (PySem.W.fnOf f f (defArgs st) (defBody st) (defScope st) .none kV dc pm an cd ct) ⟨[v], []⟩ = pure [(x, v)])
    {fb : Addr} (a : PySem.W.nsIn K mainGlobals f = some (some (.ref fb))) (l : K.lookup fb = some ⟨oc, od, .func (PySem.W.fnOf f f (defArgs st) (defBody st) (defScope st) .none kV dc pm an cd ct), osl⟩) :
    ∃ fd : FuncData, (∀ (s : Shared) (u : Value), BindsTo s fd ⟨[u], []⟩ [(x, u)]) ∧ ∀ base : Heap, K.In base → base.Ns mainGlobals mg → base.NoSeer → Gd P w K mg base (k + 100) fa fd [x] (spF K (cF T N k) f) := by
  refine ⟨_, fun s u => .of_eq (bind kV dc pm an cd ct u), fun base inB nsB seer => ?_⟩
  have R : Rw P w K mg base T B := ⟨fns, gc, bl, fun e => PySem.W.mg_of KX G (gcd e), seer, tree⟩
  obtain ⟨fa', fd', g1, g2, _, _, _, o, g3, g4⟩ := fn_lvl R N k f [x] kbs hm
  have e := hmg.symm.trans (PySem.W.mg_of KX G a)
  cases e
  rw [hmg] at g2
  cases g2
  rw [l] at g3
  cases g3
  cases g4
  exact g1
end
/-! ### the denotation, a step at a time: loops and comprehensions keep their names -/
noncomputable def bodyF (cf : CF) (n : Nat) (g : XT) (body : XSs) : D → En → AH → Option Out := fun d e h => match dG cf g d e h with | some (e, h) => dSs cf n body e h | none => none
section
variable {cf : CF} {n : Nat}
theorem dS_expr {a} : dS cf n (.expr a) = cExpr (dP cf a).1 := rfl
theorem dS_ret {a} : dS cf n (.ret a) = cRet (dP cf a).1 := rfl
theorem dS_retN : dS cf n .retN = fun _ h => some (.rt .non h) := rfl
theorem dS_asg {g a} : dS cf n (.asg g a) = cAsg (dG cf g) (dP cf a).1 := rfl
theorem dS_par {is es} : dS cf n (.par is es) = cPar is (dPs cf es).l := rfl
theorem dS_aug {i op a} : dS cf n (.aug i op a) = cAug i op (dP cf a).1 := rfl
theorem dS_ite {t a b} : dS cf n (.ite t a b) = cIte (dP cf t).2 (dSs cf n a) (dSs cf n b) := rfl
theorem dS_for {g src body} : dS cf n (.for_ g src body) = fun e h => match dI cf src e h with | some (ds, ck, h) => forL ck (bodyF cf n g body) ds e h | none => none := rfl
theorem dS_while {t body} : dS cf n (.while_ t body) = whL (dP cf t).2 (dSs cf n body) n := rfl
theorem dS_pass : dS cf n .pass = fun e h => some (.nx e h) := rfl
theorem dS_brk : dS cf n .brk = fun e h => some (.bk e h) := rfl
theorem dS_cnt : dS cf n .cnt = fun e h => some (.ct e h) := rfl
end
noncomputable def gnS (cf : CF) : XG → SI | .mk _ _ src _ _ => dI cf src
noncomputable def gnF (cf : CF) : XG → En → D → AH → Option (List D × AH)
  | .mk own tg _ t b => fun e d h => match dG cf tg d (wipeE e own) h with
      | some (e, h) => match aOT t (dP cf t).2 e h with
        | some (k, h) => if k then dB cf b e h else some ([], h)
        | none => none
      | none => none
theorem dGn_eq {cf : CF} {g : XG} {e : En} {h : AH} : dGn cf g e h = match gnS cf g e h with | some (ds, ck, h) => lcL ck (gnF cf g e) ds [] h | none => none := by
  cases g
  rfl
end Ev
/-! Ev part Q: plain lemmas for the plain law. -/
namespace Ev
open PySem PySem.Spec PyProof.Rows L2

theorem call_of {T : List (Str × Fn)} {N k : Nat} {f : Str} {F : Fn} {ds : List D} {h : AH} (e : T.lookup f = some F) (l : ds.length = F.ps) : cF T N (k + 1) f ds h = Ev.run F (cF T N k) N ds h := by
  simp only [cF, e, l, if_true]
noncomputable def runB (kp : Bool) (o : Option Out) (h : AH) : Option (D × AH) := match o with
  | some (.nx _ h') => fin kp h h' .non
  | some (.rt d h') => fin kp h h' d
  | _ => none
theorem runB_rt {kp : Bool} {d : D} {h h' : AH} : runB kp (some (.rt d h')) h = fin kp h h' d := by
  unfold runB
  rfl
theorem runB_nx {kp : Bool} {e : En} {h h' : AH} : runB kp (some (.nx e h')) h = fin kp h h' .non := by
  unfold runB
  rfl
theorem call_at {T : List (Str × Fn)} {N k : Nat} {f : Str} {p sl : Nat} {b : XSs} {kp : Bool} {ds : List D} {h : AH} (e : T.lookup f = some ⟨p, sl, b, kp⟩) (l : ds.length = p) :
    cF T N (k + 1) f ds h = runB kp (dSs (cF T N k) N b (ds.map some ++ List.replicate (sl - ds.length) none) h) h := by
  rw [call_of e l]
  unfold Ev.run runB
  rfl
/-- a depth that is enough -/
theorem dep {K d : Nat} (h : d + 1 ≤ K) : ∃ j, K = j + 1 ∧ d ≤ j := ⟨K - 1, by omega, by omega⟩
theorem fin_same {kp : Bool} {h : AH} {d : D} : fin kp h h d = some (d, h) := by unfold fin; rw [if_pos rfl]
theorem atI_n {α : Type} (xs : List α) (j : Nat) : atI xs (j : Int) = xs[j]? := by
  by_cases hj : j < xs.length
  · rw [List.getElem?_eq_getElem hj]
    exact atI_nat (List.getElem?_eq_getElem hj)
  · rw [List.getElem?_eq_none (by omega)]
    unfold atI ixN
    rw [if_pos (by omega), if_neg (by omega)] <;> rfl
theorem atI_0 {α : Type} (xs : List α) : atI xs 0 = xs[0]? := atI_n xs 0
theorem atI_1 {α : Type} (xs : List α) : atI xs 1 = xs[1]? := atI_n xs 1
theorem atI_2 {α : Type} (xs : List α) : atI xs 2 = xs[2]? := atI_n xs 2
theorem atI_3 {α : Type} (xs : List α) : atI xs 3 = xs[3]? := atI_n xs 3
theorem log2_le {n b : Nat} (h : n < 2 ^ b) : n.log2 ≤ b := by
  by_cases z : n = 0
  · subst z; simp
  · exact Nat.le_of_lt ((Nat.log2_lt z).2 h)
theorem mulOk_of {i j : Int} {a b : Nat} (h1 : i.natAbs < 2 ^ a) (h2 : j.natAbs < 2 ^ b) (h : a + b < 100000000) : mulOk i j = true := by
  unfold mulOk
  rw [decide_eq_true_eq]
  have := log2_le h1
  have := log2_le h2
  omega
/-! ### fractions -/
def fr (q : Rat) : D := .tup [.int q.num, .int q.den]
theorem fr_inj {x y : Rat} (h : fr x = fr y) : x = y := by
  unfold fr at h
  simp only [D.tup.injEq, List.cons.injEq, D.int.injEq, and_true] at h
  exact Rat.ext h.1 (by have := h.2; omega)
def Sz (b : Nat) (q : Rat) : Prop := q.num.natAbs < 2 ^ b ∧ q.den < 2 ^ b
theorem Sz.mono {a b : Nat} {q : Rat} (h : Sz a q) (l : a ≤ b) : Sz b q := by
  have := Nat.pow_le_pow_right (n := 2) (by decide) l
  exact ⟨Nat.lt_of_lt_of_le h.1 this, Nat.lt_of_lt_of_le h.2 this⟩
theorem mk_num {n : Int} {d : Nat} (hd : d ≠ 0) : (mkRat n d).num = n / (Nat.gcd n.natAbs d : Nat) ∧ (mkRat n d).den = d / Nat.gcd n.natAbs d := by
  rw [Rat.mkRat_def, dif_neg hd, Rat.normalize_eq]
  exact ⟨rfl, rfl⟩
theorem mk_le {n : Int} {d : Nat} (hd : d ≠ 0) : (mkRat n d).num.natAbs ≤ n.natAbs ∧ (mkRat n d).den ≤ d := by
  obtain ⟨h1, h2⟩ := mk_num (n := n) hd
  rw [h1, h2]
  refine ⟨?_, Nat.div_le_self _ _⟩
  rw [Int.natAbs_ediv_of_dvd (by
    have := Nat.gcd_dvd_left n.natAbs d
    exact Int.ofNat_dvd_left.2 this)]
  exact Nat.div_le_self _ _
theorem fr_mk {a b : Int} (hb : 0 < b) : fr (mkRat a b.toNat) = .tup [.int (a.fdiv (Nat.gcd a.natAbs b.natAbs : Nat)), .int (b.fdiv (Nat.gcd a.natAbs b.natAbs : Nat))] := by
  have hd : b.toNat ≠ 0 := by omega
  obtain ⟨h1, h2⟩ := mk_num (n := a) hd
  have e : b.natAbs = b.toNat := by omega
  unfold fr
  rw [h1, h2, e, Int.fdiv_eq_ediv_of_nonneg a (by omega), Int.fdiv_eq_ediv_of_nonneg b (by omega)]
  have e2 : b = (b.toNat : Int) := by omega
  have e3 : ((b.toNat / Nat.gcd a.natAbs b.toNat : Nat) : Int) = b / (Nat.gcd a.natAbs b.toNat : Nat) := by
    conv => rhs; rw [e2]
    rw [Int.natCast_ediv] <;> rfl
  rw [e3]
theorem den_pos (q : Rat) : 0 < (q.den : Int) := by have := q.den_pos; omega
theorem den_ne (q : Rat) : (q.den : Int) ≠ 0 := by have := q.den_pos; omega
theorem toNat_mul (x y : Rat) : ((x.den : Int) * (y.den : Int)).toNat = x.den * y.den := by
  rw [← Int.natCast_mul, Int.toNat_natCast]
theorem fr_add (x y : Rat) : fr (mkRat (x.num * y.den + y.num * x.den) ((x.den : Int) * y.den).toNat) = fr (x + y) := by
  rw [toNat_mul, Rat.add_def']
theorem fr_sub (x y : Rat) : fr (mkRat (x.num * y.den - y.num * x.den) ((x.den : Int) * y.den).toNat) = fr (x - y) := by
  rw [toNat_mul, Rat.sub_def']
theorem fr_mul (x y : Rat) : fr (mkRat (x.num * y.num) ((x.den : Int) * y.den).toNat) = fr (x * y) := by
  rw [toNat_mul, Rat.mul_def']
/-- big enough for all, small enough for a product -/
def big : Nat := 10000000
theorem mul_nn {x y : Rat} (hx : Sz big x) (hy : Sz big y) : mulOk x.num y.num = true := mulOk_of hx.1 hy.1 (by decide)
theorem mul_nd {x y : Rat} (hx : Sz big x) (hy : Sz big y) : mulOk x.num y.den = true := mulOk_of hx.1 (by simpa using hy.2) (by decide)
theorem mul_dn {x y : Rat} (hx : Sz big x) (hy : Sz big y) : mulOk x.den y.num = true := mulOk_of (by simpa using hx.2) hy.1 (by decide)
theorem mul_dd {x y : Rat} (hx : Sz big x) (hy : Sz big y) : mulOk x.den y.den = true := mulOk_of (by simpa using hx.2) (by simpa using hy.2) (by decide)
/-! ### loops and comprehensions without a store -/
theorem lc_pure {f : D → AH → Option (List D × AH)} {h : AH} {F : D → List D} : ∀ {ds acc : List D}, (∀ d ∈ ds, f d h = some (F d, h) ∧ (F d).length ≤ 1) → acc.length + ds.length < most → lcL none f ds acc h = some (acc ++ ds.flatMap F, h)
  | [], acc, _, _ => by
    unfold lcL
    rw [if_pos (by exact trivial), List.flatMap_nil, List.append_nil]
  | d :: ds, acc, H, l => by
    obtain ⟨e1, e2⟩ := H d List.mem_cons_self
    unfold lcL
    rw [if_pos (by exact trivial), e1]
    simp only [List.length_cons] at l
    simp only
    rw [if_pos (by omega), lc_pure (fun x hx => H x (List.mem_cons_of_mem _ hx)) (by rw [List.length_append]; omega), List.flatMap_cons, List.append_assoc]
/-- one item a turn -/
theorem lc_map {f : D → AH → Option (List D × AH)} {h : AH} {F : D → D} {ds : List D} (H : ∀ d ∈ ds, f d h = some ([F d], h)) (l : ds.length < most) : lcL none f ds [] h = some (ds.map F, h) := by
  rw [lc_pure (F := fun d => [F d]) (fun d hd => ⟨H d hd, Nat.le_refl _⟩) (by simpa using l)]
  rw [List.nil_append]
  congr
  induction ds with
  | nil => rfl
  | cons d ds ih => rw [List.flatMap_cons, List.map_cons, ih (fun x hx => H x (List.mem_cons_of_mem _ hx)) (by simp only [List.length_cons] at l; omega)] <;> rfl
theorem forL_inv {f : D → En → AH → Option Out} (I : List D → En → AH → Prop) : ∀ {ds : List D} (pre : List D) {e : En} {h : AH}, I pre e h → (∀ a d b e h, a ++ d :: b = pre ++ ds → I a e h → ∃ e' h', (f d e h = some (.nx e' h') ∨ f d e h = some (.ct e' h')) ∧ I (a ++ [d]) e' h') →
    ∃ e' h', forL none f ds e h = some (.nx e' h') ∧ I (pre ++ ds) e' h'
  | [], pre, e, h, i, _ => ⟨e, h, by unfold forL; rw [if_pos (by exact trivial)], by rw [List.append_nil]; exact i⟩
  | d :: ds, pre, e, h, i, s => by
    obtain ⟨e1, h1, q, i1⟩ := s pre d ds e h rfl i
    obtain ⟨e2, h2, q2, i2⟩ := forL_inv I (ds := ds) (pre ++ [d]) i1 fun a d' b e h eq => s a d' b e h (by rw [eq, List.append_assoc] <;> rfl)
    refine ⟨e2, h2, ?_, by rw [List.append_assoc] at i2; exact i2⟩
    unfold forL
    rw [if_pos (by exact trivial)]
    rcases q with q | q <;> (rw [q]; exact q2)
theorem lc_mapR {β : Type} {f : D → AH → Option (List D × AH)} {h : AH} (rd : β → D) (F : β → D) : ∀ {l : List β}, (∀ b ∈ l, f (rd b) h = some ([F b], h)) → l.length < most → lcL none f (l.map rd) [] h = some (l.map F, h) := by
  intro l H hl
  have key : ∀ (l : List β) (acc : List D), (∀ b ∈ l, f (rd b) h = some ([F b], h)) → acc.length + l.length < most → lcL none f (l.map rd) acc h = some (acc ++ l.map F, h) := by
    intro l
    induction l with
    | nil =>
      intro acc _ _
      rw [List.map_nil, List.map_nil, List.append_nil]
      unfold lcL
      rw [if_pos (by exact trivial)]
    | cons b l ih =>
      intro acc H hl
      rw [List.map_cons, List.map_cons]
      unfold lcL
      simp only [List.length_cons] at hl
      rw [if_pos (by exact trivial), H b List.mem_cons_self]
      simp only [List.length_cons, List.length_nil]
      rw [if_pos (by omega), ih _ (fun x hx => H x (List.mem_cons_of_mem _ hx)) (by rw [List.length_append, List.length_cons, List.length_nil]; omega), List.append_assoc] <;> rfl
  have := key l [] H (by simpa using hl)
  rw [List.nil_append] at this
  exact this
/-- with a test -/
theorem lc_filR {β : Type} {f : D → AH → Option (List D × AH)} {h : AH} (rd : β → D) (P : β → Bool) (F : β → D) {l : List β} (H : ∀ b ∈ l, f (rd b) h = some (if P b then [F b] else [], h)) (hl : l.length < most) : lcL none f (l.map rd) [] h = some ((l.filter P).map F, h) := by
  have key : ∀ (l : List β) (acc : List D), (∀ b ∈ l, f (rd b) h = some (if P b then [F b] else [], h)) → acc.length + l.length < most → lcL none f (l.map rd) acc h = some (acc ++ (l.filter P).map F, h) := by
    intro l
    induction l with
    | nil =>
      intro acc _ _
      rw [List.map_nil, List.filter_nil, List.map_nil, List.append_nil]
      unfold lcL
      rw [if_pos (by exact trivial)]
    | cons b l ih =>
      intro acc H hl
      rw [List.map_cons]
      unfold lcL
      simp only [List.length_cons] at hl
      rw [if_pos (by exact trivial), H b List.mem_cons_self]
      cases e : P b with
      | true =>
        simp only [if_true, List.length_cons, List.length_nil]
        rw [if_pos (by omega), ih _ (fun x hx => H x (List.mem_cons_of_mem _ hx)) (by rw [List.length_append, List.length_cons, List.length_nil]; omega), List.append_assoc, List.filter_cons_of_pos (by exact e)] <;> rfl
      | false =>
        simp only [Bool.false_eq_true, if_false, List.length_nil]
        rw [if_pos (by omega), ih _ (fun x hx => H x (List.mem_cons_of_mem _ hx)) (by rw [List.append_nil]; omega), List.append_nil, List.filter_cons_of_neg (by rw [e]; simp)]
  have := key l [] H (by simpa using hl)
  rw [List.nil_append] at this
  exact this
def lastO {β : Type} (rd : β → D) : List β → Option D → Option D
  | [], z => z
  | b :: l, _ => lastO rd l (some (rd b))
theorem forL_fold {α β : Type} {f : D → En → AH → Option Out} {h : AH} (rd : β → D) (st : α → Option D → En) (stp : α → β → α) : ∀ (l : List β) (a : α) (z : Option D),
    (∀ pre b post, l = pre ++ b :: post → ∀ z, f (rd b) (st (pre.foldl stp a) z) h = some (.nx (st (stp (pre.foldl stp a) b) (some (rd b))) h)) → forL none f (l.map rd) (st a z) h = some (.nx (st (l.foldl stp a) (lastO rd l z)) h)
  | [], a, z, _ => by rw [List.map_nil]; unfold forL; rw [if_pos (by exact trivial)] <;> rfl
  | b :: l, a, z, H => by
    have q := forL_fold rd st stp l (stp a b) (some (rd b)) fun pre c post e z => by
      have := H (b :: pre) c post (by rw [e] <;> rfl) z
      exact this
    rw [List.map_cons]
    unfold forL
    have h0 : f (rd b) (st a z) h = some (.nx (st (stp a b) (some (rd b))) h) := H [] b l rfl z
    rw [if_pos (by exact trivial), h0]
    exact q
theorem zipD_map {β γ : Type} (p : β → D) (q : γ → D) (a : List β) (b : List γ) : zipD (a.map p) (b.map q) = (a.zip b).map fun z => .tup [p z.1, q z.2] := by
  unfold zipD
  rw [List.zip_map, List.map_map] <;> rfl
/-! ### sizes -/
theorem Sz.of_mk {n : Int} {d b : Nat} (hd : d ≠ 0) (h1 : n.natAbs < 2 ^ b) (h2 : d < 2 ^ b) : Sz b (mkRat n d) := by
  obtain ⟨a1, a2⟩ := mk_le (n := n) hd
  exact ⟨by omega, by omega⟩
theorem Sz.add {a b : Nat} {x y : Rat} (hx : Sz a x) (hy : Sz b y) : Sz (a + b + 1) (x + y) := by
  rw [Rat.add_def']
  have p1 : x.num.natAbs * y.den < 2 ^ a * 2 ^ b := Nat.mul_lt_mul'' hx.1 hy.2
  have p2 : y.num.natAbs * x.den < 2 ^ b * 2 ^ a := Nat.mul_lt_mul'' hy.1 hx.2
  have p3 : x.den * y.den < 2 ^ a * 2 ^ b := Nat.mul_lt_mul'' hx.2 hy.2
  have e : 2 ^ (a + b + 1) = 2 ^ a * 2 ^ b * 2 := by rw [Nat.pow_succ, Nat.pow_add]
  have e2 : 2 ^ b * 2 ^ a = 2 ^ a * 2 ^ b := Nat.mul_comm _ _
  refine Sz.of_mk (Nat.mul_ne_zero x.den_nz y.den_nz) ?_ (by omega)
  have t := Int.natAbs_add_le (x.num * y.den) (y.num * x.den)
  rw [Int.natAbs_mul, Int.natAbs_mul, Int.natAbs_natCast, Int.natAbs_natCast] at t
  omega
theorem Sz.sub {a b : Nat} {x y : Rat} (hx : Sz a x) (hy : Sz b y) : Sz (a + b + 1) (x - y) := by
  have : Sz b (-y) := ⟨by rw [Rat.neg_num, Int.natAbs_neg]; exact hy.1, by rw [Rat.neg_den]; exact hy.2⟩
  rw [Rat.sub_eq_add_neg]
  exact hx.add this
theorem Sz.mul {a b : Nat} {x y : Rat} (hx : Sz a x) (hy : Sz b y) : Sz (a + b) (x * y) := by
  rw [Rat.mul_def']
  have p1 : x.num.natAbs * y.num.natAbs < 2 ^ a * 2 ^ b := Nat.mul_lt_mul'' hx.1 hy.1
  have p3 : x.den * y.den < 2 ^ a * 2 ^ b := Nat.mul_lt_mul'' hx.2 hy.2
  rw [← Nat.pow_add] at p1 p3
  exact Sz.of_mk (Nat.mul_ne_zero x.den_nz y.den_nz) (by rw [Int.natAbs_mul]; exact p1) p3
/-- sums of few short ones are short -/
theorem Sz.sum {b : Nat} {β : Type} {g : β → Rat} : ∀ (l : List β) {a : Nat} {x : Rat}, Sz a x → (∀ y ∈ l, Sz b (g y)) → Sz (a + l.length * (b + 1)) (l.foldl (fun s y => s + g y) x)
  | [], a, x, h, _ => by simpa using h
  | y :: l, a, x, h, H => by
    have := Sz.sum l (h.add (H y List.mem_cons_self)) fun z hz => H z (List.mem_cons_of_mem _ hz)
    rw [List.foldl_cons]
    refine this.mono ?_
    rw [List.length_cons, Nat.add_mul]
    omega
theorem sz0 : Sz 1 0 := ⟨by decide, by decide⟩
theorem sz1 : Sz 1 1 := ⟨by decide, by decide⟩
/-! ### comparisons, classes -/
theorem isi1 : isiB "int" "int" = true := by decide
theorem isi2 : isiB "int" "bool" = false := by decide
theorem isi3 : isiB "tuple" "tuple" = true := by decide
theorem isi4 : isiB "bool" "bool" = true := by decide
theorem isi5 : isiB "list" "tuple" = false := by decide
theorem isi6 : isiB "tuple" "int" = false := by decide
theorem ok_int {i : Int} : (D.int i).ok = true := rfl
theorem deq_int {a b : Int} : PyData.eqv (D.int a).py (D.int b).py = decide (a = b) := by
  simp only [D.py, PyData.eqv]
  rfl
theorem view_int {h : AH} {i : Int} : view h (.int i) = .int i := rfl
theorem view_fr {h : AH} {x : Rat} : view h (fr x) = fr x := rfl
theorem view_str {h : AH} {x : Str} : view h (.str x) = .str x := rfl
theorem view_tup {h : AH} {x : List D} : view h (.tup x) = .tup x := rfl
theorem view_lst {h : AH} {x : List D} : view h (.lst x) = .lst x := rfl
theorem ok_fr {x : Rat} : (fr x).ok = true := rfl
theorem eq_fr {x y : Rat} : PyData.eqv (fr x).py (fr y).py = decide (x = y) := by
  rw [Bool.eq_iff_iff, decide_eq_true_eq]
  unfold fr
  simp only [D.py, D.pys, PyData.eqv, PyData.eqvAll, Bool.and_true, Bool.and_eq_true, beq_iff_eq]
  constructor
  · rintro ⟨h1, h2⟩
    exact Rat.ext h1 (by omega)
  · rintro rfl
    exact ⟨rfl, rfl⟩
theorem ty_fr {h : AH} {x : Rat} : tyN h (fr x) = "tuple" := rfl
theorem gcd_fr (q : Rat) : ((Nat.gcd q.num.natAbs (q.den : Int).natAbs : Nat) : Int) = 1 := by
  rw [Int.natAbs_natCast]
  have := q.reduced
  unfold Nat.Coprime at this
  rw [this] <;> rfl
def med : Nat := 100000
def dotR (a b : List Rat) : Rat := (a.zip b).foldl (fun s p => s + p.1 * p.2) 0
def sumR (l : List Rat) : Rat := l.foldl (fun s x => s + x) 0
def maxR (x : Rat) (l : List Rat) : Rat := l.foldl (fun m e => if m < e then e else m) x
def rowD (l : List Rat) : D := .tup (l.map fr)
theorem fr0 : (D.tup [.int 0, .int 1]) = fr 0 := rfl
theorem fr1 : (D.tup [.int 1, .int 1]) = fr 1 := rfl
section
variable {h : AH}
theorem dc_eq_int {a b : Int} : dCmp h .eq (.int a) (.int b) = some (decide (a = b)) := by
  simp only [dCmp, view_int, ok_int, Bool.and_self, if_true, deq_int]
theorem dc_ne_int {a b : Int} : dCmp h .ne (.int a) (.int b) = some (!decide (a = b)) := by
  simp only [dCmp, view_int, ok_int, Bool.and_self, if_true, deq_int]
theorem dc_eq_fr {a b : Rat} : dCmp h .eq (fr a) (fr b) = some (decide (a = b)) := by
  have e : dCmp h .eq (fr a) (fr b) = if (view h (fr a)).ok && (view h (fr b)).ok then some (PyData.eqv (view h (fr a)).py (view h (fr b)).py) else none := rfl
  rw [e, view_fr, view_fr, ok_fr, ok_fr, eq_fr] <;> rfl
theorem dc_eq_str {a b : Str} : dCmp h .eq (.str a) (.str b) = some (decide (a = b)) := rfl
theorem dc_ne_str {a b : Str} : dCmp h .ne (.str a) (.str b) = some (!decide (a = b)) := rfl
theorem dc_lt {a b : Int} : dCmp h .lt (.int a) (.int b) = some (decide (a < b)) := rfl
theorem dc_le {a b : Int} : dCmp h .le (.int a) (.int b) = some (decide (a ≤ b)) := rfl
theorem dc_gt {a b : Int} : dCmp h .gt (.int a) (.int b) = some (decide (b < a)) := rfl
theorem dc_ge {a b : Int} : dCmp h .ge (.int a) (.int b) = some (decide (b ≤ a)) := rfl
theorem dc_is {a : D} : dCmp h .is a .non = some (match a with | .non => true | _ => false) := rfl
theorem dc_isn {a : D} : dCmp h .isn a .non = some (match a with | .non => false | _ => true) := rfl
end
/-! ### ranges -/
theorem rng1_ex (n : Int) (h : AH) : ∃ r : Option (List D × Ck × AH), r = if -(2 ^ 62) ≤ n ∧ n < 2 ^ 62 then some (rngD 0 n.toNat, none, h) else none := ⟨_, rfl⟩
/-- sealed: the kernel shall not look into the bounds -/
noncomputable def rng1 (n : Int) (h : AH) : Option (List D × Ck × AH) := Classical.choose (rng1_ex n h)
theorem rng1_is (n : Int) (h : AH) : rng1 n h = if -(2 ^ 62) ≤ n ∧ n < 2 ^ 62 then some (rngD 0 n.toNat, none, h) else none := Classical.choose_spec (rng1_ex n h)
theorem aRange1_eq {f : SE} : aRange1 f = fun e h => match f e h with | some (.int n, h) => rng1 n h | _ => none := by
  funext e h
  unfold aRange1
  generalize f e h = o
  cases o with
  | none => rfl
  | some p =>
    obtain ⟨d, h1⟩ := p
    cases d with
    | int n => exact (rng1_is n h1).symm
    | _ => rfl
theorem rng_eq {n : Nat} : rngD 0 ((n : Int)).toNat = (List.range n).map fun i => .int (i : Nat) := by
  unfold rngD
  rw [Int.toNat_natCast]
  congr
  funext i
  rw [Int.zero_add]
theorem rng1_nat {h : AH} {n : Nat} (hn : n ≤ 1000) : rng1 (n : Int) h = some ((List.range n).map fun i => .int (i : Nat), none, h) := by
  rw [rng1_is]
  have a : (0 : Int) ≤ 2 ^ 62 := by decide
  have b : (1000 : Int) < 2 ^ 62 := by decide
  rw [if_pos ⟨by omega, by omega⟩, rng_eq]
noncomputable def whN (cf : CF) (n : Nat) (t : XE) (body : XSs) : Nat → En → AH → Option Out := whL (dP cf t).2 (dSs cf n body)
theorem dS_wh {cf : CF} {n : Nat} {t : XE} {body : XSs} : dS cf n (.while_ t body) = whN cf n t body n := rfl
theorem whN_stop {cf : CF} {n k : Nat} {t : XE} {body : XSs} {e : En} {h h' : AH} (a : (dP cf t).2 e h = some (false, h')) : whN cf n t body (k + 1) e h = some (.nx e h') := by
  unfold whN whL
  rw [a]
  rfl
theorem whN_go {cf : CF} {n k : Nat} {t : XE} {body : XSs} {e e' : En} {h h1 h2 : AH} (a : (dP cf t).2 e h = some (true, h1)) (b : dSs cf n body e h1 = some (.nx e' h2)) : whN cf n t body (k + 1) e h = whN cf n t body k e' h2 := by
  unfold whN
  conv => lhs; unfold whL
  rw [a]
  simp only [if_true]
  rw [b]
theorem fmod_nat (a r : Nat) : Int.fmod a r = ((a % r : Nat) : Int) := by
  rw [Int.fmod_eq_emod_of_nonneg _ (by omega), Int.natCast_emod]
theorem half_mod {r r1 : Nat} (h1 : 0 < r1) (h2 : r1 ≤ r) : 2 * (r % r1) < r := by
  have a := Nat.mod_lt r h1
  have b := Nat.div_add_mod r r1
  have c : 1 ≤ r / r1 := (Nat.le_div_iff_mul_le h1).2 (by omega)
  have d := Nat.mul_le_mul_left r1 c
  omega
/-- Euclid's turns -/
theorem euclid {cf : CF} {n : Nat} {t : XE} {body : XSs} {st : Nat → Nat → En} {h : AH} (stop : ∀ a, (dP cf t).2 (st a 0) h = some (false, h)) (go : ∀ a r, 0 < r → (dP cf t).2 (st a r) h = some (true, h) ∧ dSs cf n body (st a r) h = some (.nx (st r (a % r)) h)) :
    ∀ (b k a r : Nat), r < 2 ^ b → 2 * b + 1 ≤ k → whN cf n t body k (st a r) h = some (.nx (st (Nat.gcd a r) 0) h) := by
  intro b
  induction b with
  | zero =>
    intro k a r hr hk
    have : r = 0 := by simp at hr; exact hr
    subst this
    obtain ⟨j, rfl⟩ : ∃ j, k = j + 1 := ⟨k - 1, by omega⟩
    rw [whN_stop (stop a), Nat.gcd_zero_right]
  | succ b ih =>
    intro k a r hr hk
    obtain ⟨j, rfl⟩ : ∃ j, k = j + 1 := ⟨k - 1, by omega⟩
    by_cases z : r = 0
    · subst z
      rw [whN_stop (stop a), Nat.gcd_zero_right]
    · have hp : 0 < r := by omega
      rw [whN_go (go a r hp).1 (go a r hp).2]
      obtain ⟨i, rfl⟩ : ∃ i, j = i + 1 := ⟨j - 1, by omega⟩
      by_cases z1 : a % r = 0
      · rw [z1, whN_stop (stop r)]
        have : r ∣ a := Nat.dvd_of_mod_eq_zero z1
        rw [Nat.gcd_eq_right this]
      · have hp1 : 0 < a % r := by omega
        rw [whN_go (go r (a % r) hp1).1 (go r (a % r) hp1).2]
        have lt := half_mod hp1 (Nat.le_of_lt (Nat.mod_lt a hp))
        rw [ih i (a % r) (r % (a % r)) (by rw [Nat.pow_succ] at hr; omega) (by omega)]
        have e : Nat.gcd (a % r) (r % (a % r)) = Nat.gcd a r := by
          rw [Nat.gcd_comm (a % r), ← Nat.gcd_rec, Nat.gcd_comm a r, Nat.gcd_rec r a]
        rw [e]
end Ev
namespace Row
open PySem PySem.Spec PyProof.Rows L2 Ev
def topS (i : Nat) : Stmt := PySem.Challenge.pw_swayhouse_k03_whole_pays_best_actions_va.main.body.getD i (.Pass ⟨0, 0, 0, 0⟩)
abbrev b_is_whole : XSs := (.cons (.ret (.and (.cons (.bi (.isi ["int"]) false (.cons (.var 0) .nil)) (.cons (.not (.bi (.isi ["bool"]) false (.cons (.var 0) .nil))) .nil))))
    .nil)
abbrev f_is_whole : Fn := ⟨1, 1, b_is_whole, false⟩
abbrev b_is_between : XSs := (.cons (.ret (.and (.cons (.call "is_whole" (.cons (.var 0) .nil)) (.cons (.chain .le .le (.var 1) (.var 0) (.var 2)) .nil))))
    .nil)
abbrev f_is_between : Fn := ⟨3, 3, b_is_between, false⟩
abbrev b_is_tuple_of : XSs := (.cons (.ret (.and (.cons (.bi (.isi ["tuple"]) false (.cons (.var 0) .nil)) (.cons (.cmp .eq (.bi .len false (.cons (.var 0) .nil)) (.var 1)) .nil))))
    .nil)
abbrev f_is_tuple_of : Fn := ⟨2, 2, b_is_tuple_of, false⟩
abbrev b_is_ratio : XSs := (.cons (.ite (.or (.cons (.not (.call "is_tuple_of" (.cons (.var 0) (.cons (.int 2) .nil)))) (.cons (.not (.call "is_whole" (.cons (.ix (.var 0) (.int 0)) .nil))) (.cons (.not (.call "is_whole" (.cons (.ix (.var 0) (.int 1)) .nil))) .nil)))) (.cons (.ret (.bl false))
    .nil) .nil)
    (.cons (.ret (.and (.cons (.cmp .gt (.ix (.var 0) (.int 1)) (.int 0)) (.cons (.cmp .eq (.bi .gcd false (.cons (.ix (.var 0) (.int 0)) (.cons (.ix (.var 0) (.int 1)) .nil))) (.int 1)) .nil))))
    .nil))
abbrev f_is_ratio : Fn := ⟨1, 1, b_is_ratio, false⟩
abbrev b_ratio : XSs := (.cons (.asg (.name 2) (.ite (.cmp .gt (.var 1) (.int 0)) (.bi .gcd false (.cons (.var 0) (.cons (.var 1) .nil))) (.neg (.bi .gcd false (.cons (.var 0) (.cons (.var 1) .nil))))))
    (.cons (.ret (.tup (.cons (.bin .fdiv false (.var 0) (.var 2)) (.cons (.bin .fdiv false (.var 1) (.var 2)) .nil))))
    .nil))
abbrev f_ratio : Fn := ⟨2, 3, b_ratio, false⟩
abbrev b_plus : XSs := (.cons (.ret (.call "ratio" (.cons (.bin .add false (.bin .mul false (.ix (.var 0) (.int 0)) (.ix (.var 1) (.int 1))) (.bin .mul false (.ix (.var 1) (.int 0)) (.ix (.var 0) (.int 1)))) (.cons (.bin .mul false (.ix (.var 0) (.int 1)) (.ix (.var 1) (.int 1))) .nil))))
    .nil)
abbrev f_plus : Fn := ⟨2, 2, b_plus, false⟩
abbrev b_times : XSs := (.cons (.ret (.call "ratio" (.cons (.bin .mul false (.ix (.var 0) (.int 0)) (.ix (.var 1) (.int 0))) (.cons (.bin .mul false (.ix (.var 0) (.int 1)) (.ix (.var 1) (.int 1))) .nil))))
    .nil)
abbrev f_times : Fn := ⟨2, 2, b_times, false⟩
abbrev b_is_less : XSs := (.cons (.ret (.cmp .lt (.bin .mul false (.ix (.var 0) (.int 0)) (.ix (.var 1) (.int 1))) (.bin .mul false (.ix (.var 1) (.int 0)) (.ix (.var 0) (.int 1)))))
    .nil)
abbrev f_is_less : Fn := ⟨2, 2, b_is_less, false⟩
def b_total_1 : XSs := (.cons (.asg (.name 1) (.call "plus" (.cons (.var 1) (.cons (.var 2) .nil))))
    .nil)
abbrev b_total : XSs := (.cons (.asg (.name 1) (.gc "ZERO" (.tup [.int 0, .int 1])))
    (.cons (.for_ (.name 2) (.seq (.var 0)) b_total_1)
    (.cons (.ret (.var 1))
    .nil)))
abbrev f_total : Fn := ⟨1, 3, b_total, false⟩
def g_dot_1 : XG := (.mk [2, 3] (.tup (.cons (.name 2) (.cons (.name 3) .nil))) (.zip (.var 0) (.var 1)) .hole (.el (.call "times" (.cons (.var 2) (.cons (.var 3) .nil)))))
theorem gs_dot_1 (cf : CF) : gnS cf g_dot_1 = dI cf (.zip (.var 0) (.var 1)) := rfl
abbrev b_dot : XSs := (.cons (.ret (.call "total" (.cons (.lc false g_dot_1) .nil)))
    .nil)
abbrev f_dot : Fn := ⟨2, 4, b_dot, false⟩
def b_greatest_of_1 : XSs := (.cons (.asg (.name 1) (.ite (.call "is_less" (.cons (.var 1) (.cons (.var 2) .nil))) (.var 2) (.var 1)))
    .nil)
abbrev b_greatest_of : XSs := (.cons (.asg (.name 1) (.ix (.var 0) (.int 0)))
    (.cons (.for_ (.name 2) (.seq (.sl (.var 0) (.int 1) .hole)) b_greatest_of_1)
    (.cons (.ret (.var 1))
    .nil)))
abbrev f_greatest_of : Fn := ⟨1, 3, b_greatest_of, false⟩
def g_is_row_1 : XG := (.mk [2] (.name 2) (.seq (.var 0)) .hole (.el (.call "is_ratio" (.cons (.var 2) .nil))))
theorem gs_is_row_1 (cf : CF) : gnS cf g_is_row_1 = dI cf (.seq (.var 0)) := rfl
abbrev b_is_row : XSs := (.cons (.ret (.and (.cons (.call "is_tuple_of" (.cons (.var 0) (.cons (.var 1) .nil))) (.cons (.bi .all false (.cons (.lc false g_is_row_1) .nil)) .nil))))
    .nil)
abbrev f_is_row : Fn := ⟨2, 3, b_is_row, false⟩
def g_are_rows_1 : XG := (.mk [3] (.name 3) (.seq (.var 0)) .hole (.el (.call "is_row" (.cons (.var 3) (.cons (.var 2) .nil)))))
theorem gs_are_rows_1 (cf : CF) : gnS cf g_are_rows_1 = dI cf (.seq (.var 0)) := rfl
abbrev b_are_rows : XSs := (.cons (.ret (.and (.cons (.call "is_tuple_of" (.cons (.var 0) (.cons (.var 1) .nil))) (.cons (.bi .all false (.cons (.lc false g_are_rows_1) .nil)) .nil))))
    .nil)
abbrev f_are_rows : Fn := ⟨3, 4, b_are_rows, false⟩
def g_is_setting_by_1 : XG := (.mk [2] (.name 2) (.seq (.var 0)) .hole (.el (.call "are_rows" (.cons (.var 2) (.cons (.bi .len false (.cons (.ix (.var 0) (.int 0)) .nil)) (.cons (.bi .len false (.cons (.var 1) .nil)) .nil))))))
theorem gs_is_setting_by_1 (cf : CF) : gnS cf g_is_setting_by_1 = dI cf (.seq (.var 0)) := rfl
abbrev b_is_setting_by : XSs := (.cons (.ite (.or (.cons (.not (.call "is_tuple_of" (.cons (.var 0) (.cons (.int 2) .nil)))) (.cons (.not (.bi (.isi ["tuple"]) false (.cons (.ix (.var 0) (.int 0)) .nil))) (.cons (.not (.chain .le .le (.int 1) (.bi .len false (.cons (.ix (.var 0) (.int 0)) .nil)) (.gc "MOST_ACTIONS" (.int 5)))) .nil)))) (.cons (.ret (.bl false))
    .nil) .nil)
    (.cons (.asg (.name 1) (.ix (.ix (.var 0) (.int 0)) (.int 0)))
    (.cons (.ite (.or (.cons (.not (.bi (.isi ["tuple"]) false (.cons (.var 1) .nil))) (.cons (.not (.chain .le .le (.int 2) (.bi .len false (.cons (.var 1) .nil)) (.gc "MOST_STATES" (.int 4)))) .nil))) (.cons (.ret (.bl false))
    .nil) .nil)
    (.cons (.ret (.bi .all false (.cons (.lc false g_is_setting_by_1) .nil)))
    .nil))))
abbrev f_is_setting_by : Fn := ⟨1, 3, b_is_setting_by, false⟩
abbrev b_many_states : XSs := (.cons (.ret (.bi .len false (.cons (.ix (.ix (.var 0) (.int 0)) (.int 0)) .nil)))
    .nil)
abbrev f_many_states : Fn := ⟨1, 1, b_many_states, false⟩
abbrev b_many_actions : XSs := (.cons (.ret (.bi .len false (.cons (.ix (.var 0) (.int 0)) .nil)))
    .nil)
abbrev f_many_actions : Fn := ⟨1, 1, b_many_actions, false⟩
def g_is_mix_of_1 : XG := (.mk [2] (.name 2) (.seq (.var 0)) .hole (.el (.cmp .ge (.ix (.var 2) (.int 0)) (.int 0))))
theorem gs_is_mix_of_1 (cf : CF) : gnS cf g_is_mix_of_1 = dI cf (.seq (.var 0)) := rfl
abbrev b_is_mix_of : XSs := (.cons (.ret (.and (.cons (.call "is_row" (.cons (.var 0) (.cons (.var 1) .nil))) (.cons (.bi .all false (.cons (.lc false g_is_mix_of_1) .nil)) (.cons (.cmp .eq (.call "total" (.cons (.var 0) .nil)) (.gc "ONE" (.tup [.int 1, .int 1]))) .nil)))))
    .nil)
abbrev f_is_mix_of : Fn := ⟨2, 3, b_is_mix_of, false⟩
abbrev b_is_belief_by : XSs := (.cons (.ret (.call "is_mix_of" (.cons (.var 1) (.cons (.call "many_states" (.cons (.var 0) .nil)) .nil))))
    .nil)
abbrev f_is_belief_by : Fn := ⟨2, 2, b_is_belief_by, false⟩
abbrev b_is_action_by : XSs := (.cons (.ret (.call "is_between" (.cons (.var 1) (.cons (.int 0) (.cons (.bin .sub false (.call "many_actions" (.cons (.var 0) .nil)) (.int 1)) .nil)))))
    .nil)
abbrev f_is_action_by : Fn := ⟨2, 2, b_is_action_by, false⟩
abbrev b_is_state_by : XSs := (.cons (.ret (.call "is_between" (.cons (.var 1) (.cons (.int 0) (.cons (.bin .sub false (.call "many_states" (.cons (.var 0) .nil)) (.int 1)) .nil)))))
    .nil)
abbrev f_is_state_by : Fn := ⟨2, 2, b_is_state_by, false⟩
def g_sure_by_1 : XG := (.mk [2] (.name 2) (.range1 (.var 0)) .hole (.el (.ite (.cmp .eq (.var 2) (.var 1)) (.gc "ONE" (.tup [.int 1, .int 1])) (.gc "ZERO" (.tup [.int 0, .int 1])))))
theorem gs_sure_by_1 (cf : CF) : gnS cf g_sure_by_1 = dI cf (.range1 (.var 0)) := rfl
abbrev b_sure_by : XSs := (.cons (.ret (.bi .tuple false (.cons (.lc false g_sure_by_1) .nil)))
    .nil)
abbrev f_sure_by : Fn := ⟨2, 3, b_sure_by, false⟩
def g_best_by_1 : XG := (.mk [5, 6] (.tup (.cons (.name 5) (.cons (.name 6) .nil))) (.enum (.var 2)) (.cmp .eq (.var 6) (.var 3)) (.el (.var 5)))
def g_best_by_2 : XG := (.mk [4] (.name 4) (.seq (.ix (.var 0) (.int 0))) .hole (.el (.call "dot" (.cons (.var 4) (.cons (.var 1) .nil)))))
theorem gs_best_by_1 (cf : CF) : gnS cf g_best_by_1 = dI cf (.enum (.var 2)) := rfl
theorem gs_best_by_2 (cf : CF) : gnS cf g_best_by_2 = dI cf (.seq (.ix (.var 0) (.int 0))) := rfl
abbrev b_best_by : XSs := (.cons (.asg (.name 2) (.lc false g_best_by_2))
    (.cons (.asg (.name 3) (.call "greatest_of" (.cons (.var 2) .nil)))
    (.cons (.ret (.bi .tuple false (.cons (.lc false g_best_by_1) .nil)))
    .nil)))
abbrev f_best_by : Fn := ⟨2, 7, b_best_by, false⟩
abbrev b_worth_by : XSs := (.cons (.ret (.call "dot" (.cons (.ix (.ix (.var 0) (.int 1)) (.var 1)) (.cons (.var 2) .nil))))
    .nil)
abbrev f_worth_by : Fn := ⟨3, 3, b_worth_by, false⟩
def g_value_by_1 : XG := (.mk [2] (.name 2) (.seq (.call "best_by" (.cons (.var 0) (.cons (.var 1) .nil)))) .hole (.el (.call "worth_by" (.cons (.var 0) (.cons (.var 2) (.cons (.var 1) .nil))))))
theorem gs_value_by_1 (cf : CF) : gnS cf g_value_by_1 = dI cf (.seq (.call "best_by" (.cons (.var 0) (.cons (.var 1) .nil)))) := rfl
abbrev b_value_by : XSs := (.cons (.ret (.call "greatest_of" (.cons (.lc false g_value_by_1) .nil)))
    .nil)
abbrev f_value_by : Fn := ⟨2, 3, b_value_by, false⟩
def g_choice_by_1 : XG := (.mk [3] (.name 3) (.seq (.call "best_by" (.cons (.var 0) (.cons (.var 1) .nil)))) (.cmp .eq (.call "worth_by" (.cons (.var 0) (.cons (.var 3) (.cons (.var 1) .nil)))) (.var 2)) (.el (.var 3)))
theorem gs_choice_by_1 (cf : CF) : gnS cf g_choice_by_1 = dI cf (.seq (.call "best_by" (.cons (.var 0) (.cons (.var 1) .nil)))) := rfl
abbrev b_choice_by : XSs := (.cons (.asg (.name 2) (.call "value_by" (.cons (.var 0) (.cons (.var 1) .nil))))
    (.cons (.ret (.ix (.lc false g_choice_by_1) (.int 0)))
    .nil))
abbrev f_choice_by : Fn := ⟨2, 4, b_choice_by, false⟩
abbrev b_check_setting : XSs := (.cons (.ite (.not (.call "is_setting_by" (.cons (.var 0) .nil))) (.cons .never
    .nil) .nil)
    .nil)
abbrev f_check_setting : Fn := ⟨1, 1, b_check_setting, false⟩
abbrev b_check_belief : XSs := (.cons (.ite (.not (.call "is_belief_by" (.cons (.var 0) (.cons (.var 1) .nil)))) (.cons .never
    .nil) .nil)
    .nil)
abbrev f_check_belief : Fn := ⟨2, 2, b_check_belief, false⟩
abbrev b_check_believed : XSs := (.cons (.expr (.call "check_setting" (.cons (.var 0) .nil)))
    (.cons (.expr (.call "check_belief" (.cons (.var 0) (.cons (.var 1) .nil))))
    .nil))
abbrev f_check_believed : Fn := ⟨2, 2, b_check_believed, false⟩
abbrev b_check_action : XSs := (.cons (.ite (.not (.call "is_action_by" (.cons (.var 0) (.cons (.var 1) .nil)))) (.cons .never
    .nil) .nil)
    .nil)
abbrev f_check_action : Fn := ⟨2, 2, b_check_action, false⟩
abbrev b_check_state : XSs := (.cons (.ite (.not (.call "is_state_by" (.cons (.var 0) (.cons (.var 1) .nil)))) (.cons .never
    .nil) .nil)
    .nil)
abbrev f_check_state : Fn := ⟨2, 2, b_check_state, false⟩
abbrev b_sure : XSs := (.cons (.expr (.call "check_setting" (.cons (.var 0) .nil)))
    (.cons (.expr (.call "check_state" (.cons (.var 0) (.cons (.var 1) .nil))))
    (.cons (.ret (.call "sure_by" (.cons (.call "many_states" (.cons (.var 0) .nil)) (.cons (.var 1) .nil))))
    .nil)))
abbrev f_sure : Fn := ⟨2, 2, b_sure, false⟩
abbrev b_check_taken : XSs := (.cons (.expr (.call "check_setting" (.cons (.var 0) .nil)))
    (.cons (.expr (.call "check_action" (.cons (.var 0) (.cons (.var 1) .nil))))
    (.cons (.expr (.call "check_belief" (.cons (.var 0) (.cons (.var 2) .nil))))
    .nil)))
abbrev f_check_taken : Fn := ⟨3, 3, b_check_taken, false⟩
abbrev b_pay : XSs := (.cons (.expr (.call "check_taken" (.cons (.var 0) (.cons (.var 1) (.cons (.var 2) .nil)))))
    (.cons (.ret (.call "dot" (.cons (.ix (.ix (.var 0) (.int 0)) (.var 1)) (.cons (.var 2) .nil))))
    .nil))
abbrev f_pay : Fn := ⟨3, 3, b_pay, false⟩
abbrev b_worth : XSs := (.cons (.expr (.call "check_taken" (.cons (.var 0) (.cons (.var 1) (.cons (.var 2) .nil)))))
    (.cons (.ret (.call "worth_by" (.cons (.var 0) (.cons (.var 1) (.cons (.var 2) .nil)))))
    .nil))
abbrev f_worth : Fn := ⟨3, 3, b_worth, false⟩
abbrev b_best_actions : XSs := (.cons (.expr (.call "check_believed" (.cons (.var 0) (.cons (.var 1) .nil))))
    (.cons (.ret (.call "best_by" (.cons (.var 0) (.cons (.var 1) .nil))))
    .nil))
abbrev f_best_actions : Fn := ⟨2, 2, b_best_actions, false⟩
abbrev b_choice : XSs := (.cons (.expr (.call "check_believed" (.cons (.var 0) (.cons (.var 1) .nil))))
    (.cons (.ret (.call "choice_by" (.cons (.var 0) (.cons (.var 1) .nil))))
    .nil))
abbrev f_choice : Fn := ⟨2, 2, b_choice, false⟩
abbrev b_value : XSs := (.cons (.expr (.call "check_believed" (.cons (.var 0) (.cons (.var 1) .nil))))
    (.cons (.ret (.call "value_by" (.cons (.var 0) (.cons (.var 1) .nil))))
    .nil))
abbrev f_value : Fn := ⟨2, 2, b_value, false⟩
def b__law_well_1 : XSs := (.cons (.asg (.name 2) (.bin .mod false (.bi .int false (.cons (.bin .add false (.bin .add false (.bin .mul false (.var 2) (.int 48889)) (.bin .mul false (.bin .mod false (.bi .int false (.cons (.var 3) .nil)) (.int 2147483477)) (.int 5))) (.int 23)) .nil)) (.int 2147483477)))
    .nil)
abbrev b__law_well : XSs := (.cons (.asg (.name 2) (.bin .add false (.int 430307) (.bin .mul false (.int 6841) (.var 1))))
    (.cons (.for_ (.name 3) (.seq (.sl (.var 0) .hole (.int 12))) b__law_well_1)
    (.cons (.asg (.name 4) (.ite (.cmp .lt (.var 1) (.bi .len false (.cons (.var 0) .nil))) (.bi .int false (.cons (.ix (.var 0) (.var 1)) .nil)) (.int 0)))
    (.cons (.asg (.name 2) (.bin .mod false (.bi .int false (.cons (.bin .add false (.bin .add false (.bin .mul false (.var 2) (.int 61)) (.bin .mul false (.bin .mod false (.bi .int false (.cons (.var 4) .nil)) (.int 2147483477)) (.int 28657))) (.int 11)) .nil)) (.int 2147483477)))
    (.cons (.ret (.lst true (.cons (.ite (.or (.cons (.cmp .lt (.var 4) (.int 0)) (.cons (.cmp .ge (.var 4) (.bin .pow false (.int 10) (.int 15))) .nil))) (.bi .abs false (.cons (.var 4) .nil)) (.int 0)) (.cons (.var 2) (.cons (.int 0) .nil)))))
    .nil)))))
abbrev f__law_well : Fn := ⟨2, 5, b__law_well, true⟩
abbrev b__law_draw : XSs := (.cons (.ite (.cmp .gt (.ix (.var 0) (.int 0)) (.int 0)) (.cons (.asg (.tup (.cons (.sub (.var 0) (.int 0)) (.cons (.name 3) .nil))) (.bi .divmod false (.cons (.ix (.var 0) (.int 0)) (.cons (.var 1) .nil))))
    (.cons (.ret (.var 3))
    .nil)) .nil)
    (.cons (.asg (.sub (.var 0) (.int 2)) (.bin .add false (.ix (.var 0) (.int 2)) (.int 1)))
    (.cons (.asg (.name 2) (.bin .mod false (.bi .int false (.cons (.bin .add false (.bin .mul false (.ix (.var 0) (.int 1)) (.int 44497)) (.bin .mul false (.int 13007) (.ix (.var 0) (.int 2)))) .nil)) (.int 2147483477)))
    (.cons (.asg (.sub (.var 0) (.int 1)) (.bin .mod false (.bi .int false (.cons (.bin .add false (.bin .mul false (.var 2) (.bin .add false (.bin .mod false (.bi .int false (.cons (.var 2) .nil)) (.int 4999)) (.int 30011))) (.ix (.var 0) (.int 2))) .nil)) (.int 2147483477)))
    (.cons (.ret (.bin .mod false (.bi .int false (.cons (.bin .fdiv false (.ix (.var 0) (.int 1)) (.int 1013)) .nil)) (.var 1)))
    .nil)))))
abbrev f__law_draw : Fn := ⟨2, 4, b__law_draw, false⟩
abbrev b__law_one : XSs := (.cons (.ret (.ix (.var 1) (.call "_law_draw" (.cons (.var 0) (.cons (.bi .len false (.cons (.var 1) .nil)) .nil)))))
    .nil)
abbrev f__law_one : Fn := ⟨2, 2, b__law_one, false⟩
def b__law_lean_1 : XSs := (.cons (.par [2, 3] (.cons (.var 3) (.cons (.bin .mod false (.bi .int false (.cons (.var 2) .nil)) (.var 3)) .nil)))
    .nil)
abbrev b__law_lean : XSs := (.cons (.par [2, 3] (.cons (.bi .abs false (.cons (.var 0) .nil)) (.cons (.bi .abs false (.cons (.var 1) .nil)) .nil)))
    (.cons (.while_ (.cmp .gt (.var 3) (.int 0)) b__law_lean_1)
    (.cons (.asg (.name 2) (.ite (.cmp .gt (.var 1) (.int 0)) (.var 2) (.bin .sub false (.int 0) (.var 2))))
    (.cons (.ret (.tup (.cons (.bin .fdiv false (.var 0) (.var 2)) (.cons (.bin .fdiv false (.var 1) (.var 2)) .nil))))
    .nil))))
abbrev f__law_lean : Fn := ⟨2, 4, b__law_lean, false⟩
abbrev b__law_plus : XSs := (.cons (.ret (.call "_law_lean" (.cons (.bin .add false (.bin .mul false (.ix (.var 0) (.int 0)) (.ix (.var 1) (.int 1))) (.bin .mul false (.ix (.var 1) (.int 0)) (.ix (.var 0) (.int 1)))) (.cons (.bin .mul false (.ix (.var 0) (.int 1)) (.ix (.var 1) (.int 1))) .nil))))
    .nil)
abbrev f__law_plus : Fn := ⟨2, 2, b__law_plus, false⟩
abbrev b__law_times : XSs := (.cons (.ret (.call "_law_lean" (.cons (.bin .mul false (.ix (.var 0) (.int 0)) (.ix (.var 1) (.int 0))) (.cons (.bin .mul false (.ix (.var 0) (.int 1)) (.ix (.var 1) (.int 1))) .nil))))
    .nil)
abbrev f__law_times : Fn := ⟨2, 2, b__law_times, false⟩
abbrev b__law_below : XSs := (.cons (.ret (.cmp .lt (.bin .mul false (.ix (.var 0) (.int 0)) (.ix (.var 1) (.int 1))) (.bin .mul false (.ix (.var 1) (.int 0)) (.ix (.var 0) (.int 1)))))
    .nil)
abbrev f__law_below : Fn := ⟨2, 2, b__law_below, false⟩
def b__law_dot_1 : XSs := (.cons (.asg (.name 2) (.call "_law_plus" (.cons (.var 2) (.cons (.call "_law_times" (.cons (.var 3) (.cons (.var 4) .nil))) .nil))))
    .nil)
abbrev b__law_dot : XSs := (.cons (.asg (.name 2) (.tup (.cons (.int 0) (.cons (.int 1) .nil))))
    (.cons (.for_ (.tup (.cons (.name 3) (.cons (.name 4) .nil))) (.zip (.var 0) (.var 1)) b__law_dot_1)
    (.cons (.ret (.var 2))
    .nil)))
abbrev f__law_dot : Fn := ⟨2, 5, b__law_dot, false⟩
abbrev b__law_minus : XSs := (.cons (.ret (.call "_law_lean" (.cons (.bin .sub false (.bin .mul false (.ix (.var 0) (.int 0)) (.ix (.var 1) (.int 1))) (.bin .mul false (.ix (.var 1) (.int 0)) (.ix (.var 0) (.int 1)))) (.cons (.bin .mul false (.ix (.var 0) (.int 1)) (.ix (.var 1) (.int 1))) .nil))))
    .nil)
abbrev f__law_minus : Fn := ⟨2, 2, b__law_minus, false⟩
abbrev b__law_over : XSs := (.cons (.ret (.call "_law_lean" (.cons (.bin .mul false (.ix (.var 0) (.int 0)) (.ix (.var 1) (.int 1))) (.cons (.bin .mul false (.ix (.var 0) (.int 1)) (.ix (.var 1) (.int 0))) .nil))))
    .nil)
abbrev f__law_over : Fn := ⟨2, 2, b__law_over, false⟩
def g__law_chance_1 : XG := (.mk [4] (.name 4) (.seq (.var 2)) .hole (.el (.call "_law_lean" (.cons (.var 4) (.cons (.bi .sum false (.cons (.var 2) .nil)) .nil)))))
def b__law_chance_1 : XSs := (.cons (.expr (.meth .append (.var 2) (.cons (.call "_law_one" (.cons (.var 0) (.cons (.tup (.cons (.int 0) (.cons (.int 1) (.cons (.int 1) (.cons (.int 2) (.cons (.int 3) (.cons (.int 0) (.cons (.int 1) (.cons (.int 5) (.cons (.int 17) .nil)))))))))) .nil))) .nil)))
    .nil)
theorem gs__law_chance_1 (cf : CF) : gnS cf g__law_chance_1 = dI cf (.seq (.var 2)) := rfl
abbrev b__law_chance : XSs := (.cons (.asg (.name 2) (.lst true .nil))
    (.cons (.for_ (.name 3) (.range1 (.var 1)) b__law_chance_1)
    (.cons (.ite (.cmp .eq (.bi .sum false (.cons (.var 2) .nil)) (.int 0)) (.cons (.asg (.sub (.var 2) (.call "_law_draw" (.cons (.var 0) (.cons (.var 1) .nil)))) (.int 1))
    .nil) .nil)
    (.cons (.ret (.bi .tuple false (.cons (.lc false g__law_chance_1) .nil)))
    .nil))))
abbrev f__law_chance : Fn := ⟨2, 5, b__law_chance, false⟩
abbrev b__law_number : XSs := (.cons (.asg (.name 1) (.call "_law_draw" (.cons (.var 0) (.cons (.int 14) .nil))))
    (.cons (.ite (.cmp .lt (.var 1) (.int 10)) (.cons (.ret (.tup (.cons (.bin .sub false (.call "_law_draw" (.cons (.var 0) (.cons (.int 5) .nil))) (.int 1)) (.cons (.int 1) .nil))))
    .nil) .nil)
    (.cons (.ite (.cmp .lt (.var 1) (.int 13)) (.cons (.ret (.call "_law_lean" (.cons (.bin .sub false (.call "_law_draw" (.cons (.var 0) (.cons (.int 13) .nil))) (.int 6)) (.cons (.bin .add false (.int 1) (.call "_law_draw" (.cons (.var 0) (.cons (.int 4) .nil)))) .nil))))
    .nil) .nil)
    (.cons (.ret (.call "_law_lean" (.cons (.bin .sub false (.call "_law_draw" (.cons (.var 0) (.cons (.bin .pow false (.int 10) (.int 20)) .nil))) (.bin .pow false (.int 10) (.int 6))) (.cons (.bin .add false (.int 1) (.call "_law_draw" (.cons (.var 0) (.cons (.int 60) .nil)))) .nil))))
    .nil))))
abbrev f__law_number : Fn := ⟨1, 2, b__law_number, false⟩
def b__law_row_1 : XSs := (.cons (.expr (.meth .append (.var 2) (.cons (.call "_law_number" (.cons (.var 0) .nil)) .nil)))
    .nil)
abbrev b__law_row : XSs := (.cons (.asg (.name 2) (.lst true .nil))
    (.cons (.for_ (.name 3) (.range1 (.var 1)) b__law_row_1)
    (.cons (.ret (.var 2))
    .nil)))
abbrev f__law_row : Fn := ⟨2, 4, b__law_row, false⟩
abbrev b__law_sizes : XSs := (.cons (.ret (.call "_law_one" (.cons (.var 0) (.cons (.tup (.cons (.tup (.cons (.int 2) (.cons (.int 2) .nil))) (.cons (.tup (.cons (.int 2) (.cons (.int 3) .nil))) (.cons (.tup (.cons (.int 3) (.cons (.int 2) .nil))) (.cons (.tup (.cons (.int 3) (.cons (.int 3) .nil))) (.cons (.tup (.cons (.int 2) (.cons (.int 4) .nil))) (.cons (.tup (.cons (.int 3) (.cons (.int 3) .nil))) (.cons (.tup (.cons (.int 2) (.cons (.int 1) .nil))) (.cons (.tup (.cons (.int 2) (.cons (.int 5) .nil))) (.cons (.tup (.cons (.int 3) (.cons (.int 2) .nil))) (.cons (.tup (.cons (.int 2) (.cons (.int 3) .nil))) (.cons (.tup (.cons (.int 3) (.cons (.int 4) .nil))) (.cons (.tup (.cons (.int 4) (.cons (.int 2) .nil))) (.cons (.tup (.cons (.int 2) (.cons (.int 2) .nil))) (.cons (.tup (.cons (.int 3) (.cons (.int 1) .nil))) (.cons (.tup (.cons (.int 2) (.cons (.int 3) .nil))) (.cons (.tup (.cons (.int 3) (.cons (.int 3) .nil))) (.cons (.tup (.cons (.int 4) (.cons (.int 1) .nil))) (.cons (.tup (.cons (.int 2) (.cons (.int 4) .nil))) (.cons (.tup (.cons (.int 3) (.cons (.int 5) .nil))) (.cons (.tup (.cons (.int 4) (.cons (.int 3) .nil))) .nil))))))))))))))))))))) .nil))))
    .nil)
abbrev f__law_sizes : Fn := ⟨1, 1, b__law_sizes, false⟩
def g__law_pays_1 : XG := (.mk [7] (.name 7) (.seq (.var 5)) .hole (.el (.bi .tuple false (.cons (.var 7) .nil))))
def g__law_pays_2 : XG := (.mk [14, 15] (.tup (.cons (.name 14) (.cons (.name 15) .nil))) (.zip (.ix (.var 5) (.var 11)) (.ix (.var 5) (.var 12))) .hole (.el (.call "_law_plus" (.cons (.call "_law_times" (.cons (.call "_law_plus" (.cons (.var 14) (.cons (.var 15) .nil))) (.cons (.tup (.cons (.int 1) (.cons (.int 2) .nil))) .nil))) (.cons (.var 8) .nil)))))
def g__law_pays_3 : XG := (.mk [14] (.name 14) (.seq (.ix (.var 5) (.var 11))) .hole (.el (.call "_law_plus" (.cons (.var 14) (.cons (.tup (.cons (.bin .sub false (.call "_law_draw" (.cons (.var 0) (.cons (.int 3) .nil))) (.int 1)) (.cons (.int 1) .nil))) .nil)))))
def b__law_pays_1 : XSs := (.cons (.asg (.tup (.cons (.name 10) (.cons (.name 11) (.cons (.name 12) (.cons (.name 3) .nil))))) (.tup (.cons (.call "_law_draw" (.cons (.var 0) (.cons (.int 4) .nil))) (.cons (.call "_law_draw" (.cons (.var 0) (.cons (.var 2) .nil))) (.cons (.call "_law_draw" (.cons (.var 0) (.cons (.var 2) .nil))) (.cons (.call "_law_draw" (.cons (.var 0) (.cons (.var 2) .nil))) .nil))))))
    (.cons (.asg (.name 8) (.ite (.cmp .eq (.var 10) (.int 1)) (.tup (.cons (.int 0) (.cons (.int 1) .nil))) (.tup (.cons (.neg (.int 1)) (.cons (.int 4) .nil)))))
    (.cons (.ite (.cmp .eq (.var 10) (.int 0)) (.cons (.asg (.sub (.var 5) (.var 3)) (.bi .list false (.cons (.ix (.var 5) (.var 11)) .nil)))
    .nil) (.cons (.ite (.and (.cons (.cmp .lt (.var 10) (.int 3)) (.cons (.cmp .nin (.var 3) (.tup (.cons (.var 11) (.cons (.var 12) .nil)))) .nil))) (.cons (.asg (.sub (.var 5) (.var 3)) (.lc false g__law_pays_2))
    .nil) (.cons (.ite (.cmp .eq (.var 10) (.int 3)) (.cons (.asg (.sub (.var 5) (.var 3)) (.lc false g__law_pays_3))
    .nil) .nil)
    .nil))
    .nil))
    .nil)))
def g__law_pays_4 : XG := (.mk [15] (.name 15) (.seq (.var 9)) .hole (.el (.bin .mul false (.var 15) (.var 15))))
def g__law_pays_5 : XG := (.mk [14] (.name 14) (.seq (.var 9)) .hole (.el (.tup (.cons (.bin .sub false (.bin .mul false (.int 8) (.var 14)) (.bi .sum false (.cons (.lc false g__law_pays_4) .nil))) (.cons (.int 1) .nil)))))
def g__law_pays_6 : XG := (.mk [13] (.name 13) (.range1 (.var 1)) .hole (.el (.call "_law_draw" (.cons (.var 0) (.cons (.int 5) .nil)))))
def b__law_pays_2 : XSs := (.cons (.asg (.name 7) (.call "_law_row" (.cons (.var 0) (.cons (.var 1) .nil))))
    (.cons (.ite (.var 6) (.cons (.asg (.name 9) (.lc false g__law_pays_6))
    (.cons (.asg (.name 7) (.lc false g__law_pays_5))
    .nil)) .nil)
    (.cons (.expr (.meth .append (.var 5) (.cons (.var 7) .nil)))
    .nil)))
theorem gs__law_pays_1 (cf : CF) : gnS cf g__law_pays_1 = dI cf (.seq (.var 5)) := rfl
theorem gs__law_pays_2 (cf : CF) : gnS cf g__law_pays_2 = dI cf (.zip (.ix (.var 5) (.var 11)) (.ix (.var 5) (.var 12))) := rfl
theorem gs__law_pays_3 (cf : CF) : gnS cf g__law_pays_3 = dI cf (.seq (.ix (.var 5) (.var 11))) := rfl
theorem gs__law_pays_4 (cf : CF) : gnS cf g__law_pays_4 = dI cf (.seq (.var 9)) := rfl
theorem gs__law_pays_5 (cf : CF) : gnS cf g__law_pays_5 = dI cf (.seq (.var 9)) := rfl
theorem gs__law_pays_6 (cf : CF) : gnS cf g__law_pays_6 = dI cf (.range1 (.var 1)) := rfl
abbrev b__law_pays : XSs := (.cons (.par [5, 6] (.cons (.lst true .nil) (.cons (.cmp .eq (.call "_law_draw" (.cons (.var 0) (.cons (.int 2) .nil))) (.int 0)) .nil)))
    (.cons (.for_ (.name 3) (.range1 (.var 2)) b__law_pays_2)
    (.cons (.for_ (.name 4) (.range1 (.ite (.cmp .gt (.var 2) (.int 1)) (.call "_law_draw" (.cons (.var 0) (.cons (.int 3) .nil))) (.int 0))) b__law_pays_1)
    (.cons (.ret (.bi .tuple false (.cons (.lc false g__law_pays_1) .nil)))
    .nil))))
abbrev f__law_pays : Fn := ⟨3, 16, b__law_pays, false⟩
def g__law_best_1 : XG := (.mk [5] (.name 5) (.seq (.var 2)) .hole (.el (.call "_law_below" (.cons (.ix (.var 2) (.var 4)) (.cons (.var 5) .nil)))))
def g__law_best_2 : XG := (.mk [4] (.name 4) (.range1 (.bi .len false (.cons (.var 0) .nil))) (.not (.bi .any false (.cons (.lc false g__law_best_1) .nil))) (.el (.var 4)))
def g__law_best_3 : XG := (.mk [3] (.name 3) (.seq (.var 0)) .hole (.el (.call "_law_dot" (.cons (.var 3) (.cons (.var 1) .nil)))))
theorem gs__law_best_1 (cf : CF) : gnS cf g__law_best_1 = dI cf (.seq (.var 2)) := rfl
theorem gs__law_best_2 (cf : CF) : gnS cf g__law_best_2 = dI cf (.range1 (.bi .len false (.cons (.var 0) .nil))) := rfl
theorem gs__law_best_3 (cf : CF) : gnS cf g__law_best_3 = dI cf (.seq (.var 0)) := rfl
abbrev b__law_best : XSs := (.cons (.asg (.name 2) (.lc false g__law_best_3))
    (.cons (.ret (.lc false g__law_best_2))
    .nil))
abbrev f__law_best : Fn := ⟨2, 6, b__law_best, false⟩
def g__law_choice_1 : XG := (.mk [6] (.name 6) (.seq (.var 3)) .hole (.el (.call "_law_below" (.cons (.ix (.var 3) (.var 4)) (.cons (.var 6) .nil)))))
def b__law_choice_1 : XSs := (.cons (.ite (.not (.bi .any false (.cons (.lc false g__law_choice_1) .nil))) (.cons (.ret (.tup (.cons (.ix (.var 2) (.var 4)) (.cons (.ix (.var 3) (.var 4)) .nil))))
    .nil) .nil)
    .nil)
def g__law_choice_2 : XG := (.mk [5] (.name 5) (.seq (.var 2)) .hole (.el (.call "_law_dot" (.cons (.ix (.ix (.var 0) (.int 1)) (.var 5)) (.cons (.var 1) .nil)))))
theorem gs__law_choice_1 (cf : CF) : gnS cf g__law_choice_1 = dI cf (.seq (.var 3)) := rfl
theorem gs__law_choice_2 (cf : CF) : gnS cf g__law_choice_2 = dI cf (.seq (.var 2)) := rfl
abbrev b__law_choice : XSs := (.cons (.asg (.name 2) (.call "_law_best" (.cons (.ix (.var 0) (.int 0)) (.cons (.var 1) .nil))))
    (.cons (.asg (.name 3) (.lc false g__law_choice_2))
    (.cons (.for_ (.name 4) (.range1 (.bi .len false (.cons (.var 2) .nil))) b__law_choice_1)
    (.cons (.ret (.tup (.cons (.int 0) (.cons (.tup (.cons (.int 0) (.cons (.int 1) .nil))) .nil))))
    .nil))))
abbrev f__law_choice : Fn := ⟨2, 7, b__law_choice, false⟩
def g__law_tied_1 : XG := (.mk [8] (.name 8) (.range1 (.bi .len false (.cons (.var 2) .nil))) (.cmp .gt (.ix (.ix (.var 2) (.var 8)) (.int 0)) (.int 0)) (.el (.var 8)))
theorem gs__law_tied_1 (cf : CF) : gnS cf g__law_tied_1 = dI cf (.range1 (.bi .len false (.cons (.var 2) .nil))) := rfl
abbrev b__law_tied : XSs := (.cons (.par [6, 7] (.cons (.call "_law_draw" (.cons (.var 0) (.cons (.bi .len false (.cons (.var 1) .nil)) .nil))) (.cons (.call "_law_draw" (.cons (.var 0) (.cons (.bi .len false (.cons (.var 1) .nil)) .nil))) .nil)))
    (.cons (.ite (.cmp .eq (.var 6) (.var 7)) (.cons (.ret (.var 1))
    .nil) .nil)
    (.cons (.asg (.name 3) (.call "_law_one" (.cons (.var 0) (.cons (.lc false g__law_tied_1) .nil))))
    (.cons (.asg (.name 4) (.call "_law_over" (.cons (.call "_law_minus" (.cons (.call "_law_dot" (.cons (.ix (.var 1) (.var 6)) (.cons (.var 2) .nil))) (.cons (.call "_law_dot" (.cons (.ix (.var 1) (.var 7)) (.cons (.var 2) .nil))) .nil))) (.cons (.ix (.var 2) (.var 3)) .nil))))
    (.cons (.asg (.name 5) (.bin .add false (.bin .add false (.sl (.ix (.var 1) (.var 7)) .hole (.var 3)) (.tup (.cons (.call "_law_plus" (.cons (.ix (.ix (.var 1) (.var 7)) (.var 3)) (.cons (.var 4) .nil))) .nil))) (.sl (.ix (.var 1) (.var 7)) (.bin .add false (.var 3) (.int 1)) .hole)))
    (.cons (.ret (.bin .add false (.bin .add false (.sl (.var 1) .hole (.var 7)) (.tup (.cons (.var 5) .nil))) (.sl (.var 1) (.bin .add false (.var 7) (.int 1)) .hole)))
    .nil))))))
abbrev f__law_tied : Fn := ⟨3, 9, b__law_tied, false⟩
def b__law_world_1 : XSs := (.cons (.asg (.name 8) (.call "_law_draw" (.cons (.var 0) (.cons (.int 3) .nil))))
    (.cons (.expr (.meth .append (.var 7) (.cons (.bi .tuple false (.cons (.ite (.cmp .eq (.var 8) (.int 0)) (.bin .mul false (.lst false (.cons (.call "_law_number" (.cons (.var 0) .nil)) .nil)) (.var 3)) (.call "_law_row" (.cons (.var 0) (.cons (.var 3) .nil)))) .nil)) .nil)))
    (.cons (.ite (.and (.cons (.cmp .eq (.var 8) (.int 1)) (.cons (.cmp .gt (.var 2) (.int 0)) .nil))) (.cons (.asg (.sub (.var 7) (.var 2)) (.ix (.var 7) (.call "_law_draw" (.cons (.var 0) (.cons (.var 2) .nil)))))
    .nil) .nil)
    .nil)))
def b__law_world_2 : XSs := (.cons (.asg (.name 5) (.call "_law_tied" (.cons (.var 0) (.cons (.var 5) (.cons (.var 6) .nil)))))
    .nil)
abbrev b__law_world : XSs := (.cons (.asg (.tup (.cons (.name 3) (.cons (.name 4) .nil))) (.call "_law_sizes" (.cons (.var 0) .nil)))
    (.cons (.par [5, 6, 7] (.cons (.call "_law_pays" (.cons (.var 0) (.cons (.var 3) (.cons (.var 4) .nil)))) (.cons (.call "_law_chance" (.cons (.var 0) (.cons (.var 3) .nil))) (.cons (.lst true .nil) .nil))))
    (.cons (.for_ (.name 1) (.range1 (.call "_law_draw" (.cons (.var 0) (.cons (.int 3) .nil)))) b__law_world_2)
    (.cons (.for_ (.name 2) (.range1 (.var 4)) b__law_world_1)
    (.cons (.ret (.tup (.cons (.tup (.cons (.var 5) (.cons (.bi .tuple false (.cons (.var 7) .nil)) .nil))) (.cons (.var 6) .nil))))
    .nil)))))
abbrev f__law_world : Fn := ⟨1, 9, b__law_world, false⟩
def g__law_moved_1 : XG := (.mk [6, 7] (.tup (.cons (.name 6) (.cons (.name 7) .nil))) (.zip (.var 5) (.var 3)) .hole (.el (.call "_law_times" (.cons (.call "_law_plus" (.cons (.var 6) (.cons (.var 7) .nil))) (.cons (.var 4) .nil)))))
def g__law_moved_2 : XG := (.mk [5] (.name 5) (.seq (.ix (.var 1) (.int 0))) .hole (.el (.bi .tuple false (.cons (.lc false g__law_moved_1) .nil))))
theorem gs__law_moved_1 (cf : CF) : gnS cf g__law_moved_1 = dI cf (.zip (.var 5) (.var 3)) := rfl
theorem gs__law_moved_2 (cf : CF) : gnS cf g__law_moved_2 = dI cf (.seq (.ix (.var 1) (.int 0))) := rfl
abbrev b__law_moved : XSs := (.cons (.asg (.tup (.cons (.name 3) (.cons (.name 4) .nil))) (.tup (.cons (.call "_law_row" (.cons (.var 0) (.cons (.bi .len false (.cons (.ix (.ix (.var 1) (.int 0)) (.int 0)) .nil)) .nil))) (.cons (.call "_law_one" (.cons (.var 0) (.cons (.tup (.cons (.tup (.cons (.int 1) (.cons (.int 1) .nil))) (.cons (.tup (.cons (.int 3) (.cons (.int 1) .nil))) (.cons (.tup (.cons (.int 1) (.cons (.int 2) .nil))) (.cons (.tup (.cons (.int 5) (.cons (.int 7) .nil))) (.cons (.tup (.cons (.bin .pow false (.int 10) (.int 12)) (.cons (.int 1) .nil))) .nil)))))) .nil))) .nil))))
    (.cons (.asg (.name 2) (.lc false g__law_moved_2))
    (.cons (.ret (.tup (.cons (.bi .tuple false (.cons (.var 2) .nil)) (.cons (.ix (.var 1) (.int 1)) .nil))))
    .nil)))
abbrev f__law_moved : Fn := ⟨2, 8, b__law_moved, false⟩
def g__law_there_1 : XG := (.mk [6] (.name 6) (.seq (.var 2)) .hole (.el (.call "worth" (.cons (.var 0) (.cons (.var 6) (.cons (.var 1) .nil))))))
def g__law_there_2 : XG := (.mk [7] (.name 7) (.seq (.ix (.var 0) (.int 1))) .hole (.el (.call "_law_dot" (.cons (.var 7) (.cons (.var 1) .nil)))))
def g__law_there_3 : XG := (.mk [6] (.name 6) (.seq (.var 2)) .hole (.el (.call "pay" (.cons (.var 0) (.cons (.var 6) (.cons (.var 1) .nil))))))
def g__law_there_4 : XG := (.mk [7] (.name 7) (.seq (.ix (.var 0) (.int 0))) .hole (.el (.call "_law_dot" (.cons (.var 7) (.cons (.var 1) .nil)))))
theorem gs__law_there_1 (cf : CF) : gnS cf g__law_there_1 = dI cf (.seq (.var 2)) := rfl
theorem gs__law_there_2 (cf : CF) : gnS cf g__law_there_2 = dI cf (.seq (.ix (.var 0) (.int 1))) := rfl
theorem gs__law_there_3 (cf : CF) : gnS cf g__law_there_3 = dI cf (.seq (.var 2)) := rfl
theorem gs__law_there_4 (cf : CF) : gnS cf g__law_there_4 = dI cf (.seq (.ix (.var 0) (.int 0))) := rfl
abbrev b__law_there : XSs := (.cons (.par [4, 5] (.cons (.call "_law_best" (.cons (.ix (.var 0) (.int 0)) (.cons (.var 1) .nil))) (.cons (.call "_law_choice" (.cons (.var 0) (.cons (.var 1) .nil))) .nil)))
    (.cons (.asg (.name 2) (.bi .listRange false (.cons (.bi .len false (.cons (.ix (.var 0) (.int 0)) .nil)) .nil)))
    (.cons (.ite (.cmp .ne (.bi .repr false (.cons (.lc false g__law_there_3) .nil)) (.bi .repr false (.cons (.lc false g__law_there_4) .nil))) (.cons (.ret (.bl false))
    .nil) .nil)
    (.cons (.ite (.cmp .ne (.bi .repr false (.cons (.lc false g__law_there_1) .nil)) (.bi .repr false (.cons (.lc false g__law_there_2) .nil))) (.cons (.ret (.bl false))
    .nil) .nil)
    (.cons (.asg (.name 3) (.tup (.cons (.call "best_actions" (.cons (.var 0) (.cons (.var 1) .nil))) (.cons (.call "choice" (.cons (.var 0) (.cons (.var 1) .nil))) (.cons (.call "value" (.cons (.var 0) (.cons (.var 1) .nil))) .nil)))))
    (.cons (.ret (.cmp .eq (.bi .repr false (.cons (.var 3) .nil)) (.bi .repr false (.cons (.tup (.cons (.bi .tuple false (.cons (.var 4) .nil)) (.cons (.ix (.var 5) (.int 0)) (.cons (.ix (.var 5) (.int 1)) .nil)))) .nil))))
    .nil))))))
abbrev f__law_there : Fn := ⟨2, 8, b__law_there, false⟩
def g__law_right_1 : XG := (.mk [13] (.name 13) (.seq (.ix (.ix (.var 4) (.int 1)) (.var 12))) .hole (.el (.call "_law_plus" (.cons (.var 13) (.cons (.call "_law_one" (.cons (.var 0) (.cons (.tup (.cons (.tup (.cons (.int 0) (.cons (.int 1) .nil))) (.cons (.tup (.cons (.int 1) (.cons (.int 1) .nil))) (.cons (.tup (.cons (.int 1) (.cons (.int 3) .nil))) .nil)))) .nil))) .nil)))))
def g__law_right_2 : XG := (.mk [14] (.name 14) (.range1 (.var 6)) .hole (.el (.ite (.cmp .eq (.var 14) (.var 1)) (.tup (.cons (.int 1) (.cons (.int 1) .nil))) (.tup (.cons (.int 0) (.cons (.int 1) .nil))))))
def b__law_right_1 : XSs := (.cons (.asg (.name 8) (.bi .tuple false (.cons (.lc false g__law_right_2) .nil)))
    (.cons (.ite (.or (.cons (.cmp .ne (.bi .repr false (.cons (.call "sure" (.cons (.var 4) (.cons (.var 1) .nil))) .nil)) (.bi .repr false (.cons (.var 8) .nil))) (.cons (.not (.call "_law_there" (.cons (.var 4) (.cons (.callk "sure" .nil ["state", "setting"] (.cons (.var 1) (.cons (.var 4) .nil)) [1, 0]) .nil)))) .nil))) (.cons (.ret (.bl false))
    .nil) .nil)
    .nil))
theorem gs__law_right_1 (cf : CF) : gnS cf g__law_right_1 = dI cf (.seq (.ix (.ix (.var 4) (.int 1)) (.var 12))) := rfl
theorem gs__law_right_2 (cf : CF) : gnS cf g__law_right_2 = dI cf (.range1 (.var 6)) := rfl
abbrev b__law_right : XSs := (.cons (.asg (.tup (.cons (.name 4) (.cons (.name 5) .nil))) (.call "_law_world" (.cons (.var 0) .nil)))
    (.cons (.par [6, 7] (.cons (.bi .len false (.cons (.var 5) .nil)) (.cons (.bi .len false (.cons (.ix (.var 4) (.int 0)) .nil)) .nil)))
    (.cons (.ite (.or (.cons (.not (.call "_law_there" (.cons (.var 4) (.cons (.var 5) .nil)))) (.cons (.not (.call "_law_there" (.cons (.var 4) (.cons (.call "_law_chance" (.cons (.var 0) (.cons (.var 6) .nil))) .nil)))) .nil))) (.cons (.ret (.bl false))
    .nil) .nil)
    (.cons (.for_ (.name 1) (.range1 (.var 6)) b__law_right_1)
    (.cons (.par [9, 10] (.cons (.bi .tuple false (.cons (.call "_law_best" (.cons (.ix (.var 4) (.int 0)) (.cons (.var 5) .nil))) .nil)) (.cons (.call "_law_choice" (.cons (.var 4) (.cons (.var 5) .nil))) .nil)))
    (.cons (.par [11, 12] (.cons (.call "_law_moved" (.cons (.var 0) (.cons (.var 4) .nil))) (.cons (.call "_law_draw" (.cons (.var 0) (.cons (.var 7) .nil))) .nil)))
    (.cons (.asg (.name 2) (.lst false (.cons (.callk "best_actions" .nil ["belief", "setting"] (.cons (.var 5) (.cons (.var 11) .nil)) [1, 0]) (.cons (.callk "choice" .nil ["setting", "belief"] (.cons (.var 11) (.cons (.var 5) .nil)) [0, 1]) (.cons (.call "value" (.cons (.var 11) (.cons (.var 5) .nil))) .nil)))))
    (.cons (.ite (.cmp .ne (.bi .repr false (.cons (.var 2) .nil)) (.bi .repr false (.cons (.lst false (.cons (.var 9) (.cons (.ix (.var 10) (.int 0)) (.cons (.ix (.var 10) (.int 1)) .nil)))) .nil))) (.cons (.ret (.bl false))
    .nil) .nil)
    (.cons (.asg (.name 2) (.lst false (.cons (.callk "pay" .nil ["action", "belief", "setting"] (.cons (.var 12) (.cons (.var 5) (.cons (.var 4) .nil))) [2, 0, 1]) (.cons (.callk "worth" .nil ["belief", "setting", "action"] (.cons (.var 5) (.cons (.var 4) (.cons (.var 12) .nil))) [1, 2, 0]) .nil))))
    (.cons (.ite (.cmp .ne (.bi .repr false (.cons (.var 2) .nil)) (.bi .repr false (.cons (.lst false (.cons (.call "_law_dot" (.cons (.ix (.ix (.var 4) (.int 0)) (.var 12)) (.cons (.var 5) .nil))) (.cons (.call "_law_dot" (.cons (.ix (.ix (.var 4) (.int 1)) (.var 12)) (.cons (.var 5) .nil))) .nil))) .nil))) (.cons (.ret (.bl false))
    .nil) .nil)
    (.cons (.asg (.name 3) (.bi .tuple false (.cons (.lc false g__law_right_1) .nil)))
    (.cons (.ret (.call "_law_there" (.cons (.tup (.cons (.ix (.var 4) (.int 0)) (.cons (.bin .add false (.bin .add false (.sl (.ix (.var 4) (.int 1)) .hole (.var 12)) (.tup (.cons (.var 3) .nil))) (.sl (.ix (.var 4) (.int 1)) (.bin .add false (.var 12) (.int 1)) .hole)) .nil))) (.cons (.var 5) .nil))))
    .nil))))))))))))
abbrev f__law_right : Fn := ⟨1, 15, b__law_right, false⟩
def g_law_1 : XG := (.mk [1] (.name 1) (.range1 (.bi .max2 false (.cons (.int 2) (.cons (.bi .min2 false (.cons (.bi .len false (.cons (.var 0) .nil)) (.cons (.int 4) .nil))) .nil)))) .hole (.el (.call "_law_right" (.cons (.call "_law_well" (.cons (.var 0) (.cons (.var 1) .nil))) .nil))))
theorem gs_law_1 (cf : CF) : gnS cf g_law_1 = dI cf (.range1 (.bi .max2 false (.cons (.int 2) (.cons (.bi .min2 false (.cons (.bi .len false (.cons (.var 0) .nil)) (.cons (.int 4) .nil))) .nil)))) := rfl
abbrev b_law : XSs := (.cons (.ret (.bi .all false (.cons (.lc false g_law_1) .nil)))
    .nil)
abbrev f_law : Fn := ⟨1, 2, b_law, false⟩
abbrev tb : List (Str × Fn) := [(("is_whole" : Str), f_is_whole), (("is_between" : Str), f_is_between), (("is_tuple_of" : Str), f_is_tuple_of), (("is_ratio" : Str), f_is_ratio), (("ratio" : Str), f_ratio), (("plus" : Str), f_plus), (("times" : Str), f_times), (("is_less" : Str), f_is_less), (("total" : Str), f_total), (("dot" : Str), f_dot), (("greatest_of" : Str), f_greatest_of), (("is_row" : Str), f_is_row), (("are_rows" : Str), f_are_rows), (("is_setting_by" : Str), f_is_setting_by), (("many_states" : Str), f_many_states), (("many_actions" : Str), f_many_actions), (("is_mix_of" : Str), f_is_mix_of), (("is_belief_by" : Str), f_is_belief_by), (("is_action_by" : Str), f_is_action_by), (("is_state_by" : Str), f_is_state_by), (("sure_by" : Str), f_sure_by), (("best_by" : Str), f_best_by), (("worth_by" : Str), f_worth_by), (("value_by" : Str), f_value_by), (("choice_by" : Str), f_choice_by), (("check_setting" : Str), f_check_setting), (("check_belief" : Str), f_check_belief), (("check_believed" : Str), f_check_believed), (("check_action" : Str), f_check_action), (("check_state" : Str), f_check_state), (("sure" : Str), f_sure), (("check_taken" : Str), f_check_taken), (("pay" : Str), f_pay), (("worth" : Str), f_worth), (("best_actions" : Str), f_best_actions), (("choice" : Str), f_choice), (("value" : Str), f_value), (("_law_well" : Str), f__law_well), (("_law_draw" : Str), f__law_draw), (("_law_one" : Str), f__law_one), (("_law_lean" : Str), f__law_lean), (("_law_plus" : Str), f__law_plus), (("_law_times" : Str), f__law_times), (("_law_below" : Str), f__law_below), (("_law_dot" : Str), f__law_dot), (("_law_minus" : Str), f__law_minus), (("_law_over" : Str), f__law_over), (("_law_chance" : Str), f__law_chance), (("_law_number" : Str), f__law_number), (("_law_row" : Str), f__law_row), (("_law_sizes" : Str), f__law_sizes), (("_law_pays" : Str), f__law_pays), (("_law_best" : Str), f__law_best), (("_law_choice" : Str), f__law_choice), (("_law_tied" : Str), f__law_tied), (("_law_world" : Str), f__law_world), (("_law_moved" : Str), f__law_moved), (("_law_there" : Str), f__law_there), (("_law_right" : Str), f__law_right), (("law" : Str), f_law)]
abbrev fns : List (Str × List Str × List (Nat × List Str × List Nat)) := [(("is_whole" : Str), (["value"] : List Str), ([] : List (Nat × List Str × List Nat))), (("is_between" : Str), (["value", "low", "high"] : List Str), ([] : List (Nat × List Str × List Nat))), (("is_tuple_of" : Str), (["value", "many"] : List Str), ([] : List (Nat × List Str × List Nat))), (("is_ratio" : Str), (["value"] : List Str), ([] : List (Nat × List Str × List Nat))), (("ratio" : Str), (["top", "low"] : List Str), ([] : List (Nat × List Str × List Nat))), (("plus" : Str), (["one", "two"] : List Str), ([] : List (Nat × List Str × List Nat))), (("times" : Str), (["one", "two"] : List Str), ([] : List (Nat × List Str × List Nat))), (("is_less" : Str), (["one", "two"] : List Str), ([] : List (Nat × List Str × List Nat))), (("total" : Str), (["fractions"] : List Str), ([] : List (Nat × List Str × List Nat))), (("dot" : Str), (["one", "two"] : List Str), ([] : List (Nat × List Str × List Nat))), (("greatest_of" : Str), (["fractions"] : List Str), ([] : List (Nat × List Str × List Nat))), (("is_row" : Str), (["value", "many"] : List Str), ([] : List (Nat × List Str × List Nat))), (("are_rows" : Str), (["value", "actions", "states"] : List Str), ([] : List (Nat × List Str × List Nat))), (("is_setting_by" : Str), (["value"] : List Str), ([] : List (Nat × List Str × List Nat))), (("many_states" : Str), (["setting"] : List Str), ([] : List (Nat × List Str × List Nat))), (("many_actions" : Str), (["setting"] : List Str), ([] : List (Nat × List Str × List Nat))), (("is_mix_of" : Str), (["value", "many"] : List Str), ([] : List (Nat × List Str × List Nat))), (("is_belief_by" : Str), (["setting", "value"] : List Str), ([] : List (Nat × List Str × List Nat))), (("is_action_by" : Str), (["setting", "value"] : List Str), ([] : List (Nat × List Str × List Nat))), (("is_state_by" : Str), (["setting", "value"] : List Str), ([] : List (Nat × List Str × List Nat))), (("sure_by" : Str), (["many", "state"] : List Str), ([] : List (Nat × List Str × List Nat))), (("best_by" : Str), (["setting", "belief"] : List Str), ([] : List (Nat × List Str × List Nat))), (("worth_by" : Str), (["setting", "action", "belief"] : List Str), ([] : List (Nat × List Str × List Nat))), (("value_by" : Str), (["setting", "belief"] : List Str), ([] : List (Nat × List Str × List Nat))), (("choice_by" : Str), (["setting", "belief"] : List Str), ([] : List (Nat × List Str × List Nat))), (("check_setting" : Str), (["value"] : List Str), ([] : List (Nat × List Str × List Nat))), (("check_belief" : Str), (["setting", "value"] : List Str), ([] : List (Nat × List Str × List Nat))), (("check_believed" : Str), (["setting", "belief"] : List Str), ([] : List (Nat × List Str × List Nat))), (("check_action" : Str), (["setting", "value"] : List Str), ([] : List (Nat × List Str × List Nat))), (("check_state" : Str), (["setting", "value"] : List Str), ([] : List (Nat × List Str × List Nat))), (("sure" : Str), (["setting", "state"] : List Str), ([(0, ["state", "setting"], [1, 0])] : List (Nat × List Str × List Nat))), (("check_taken" : Str), (["setting", "action", "belief"] : List Str), ([] : List (Nat × List Str × List Nat))), (("pay" : Str), (["setting", "action", "belief"] : List Str), ([(0, ["action", "belief", "setting"], [2, 0, 1])] : List (Nat × List Str × List Nat))), (("worth" : Str), (["setting", "action", "belief"] : List Str), ([(0, ["belief", "setting", "action"], [1, 2, 0])] : List (Nat × List Str × List Nat))), (("best_actions" : Str), (["setting", "belief"] : List Str), ([(0, ["belief", "setting"], [1, 0])] : List (Nat × List Str × List Nat))), (("choice" : Str), (["setting", "belief"] : List Str), ([(0, ["setting", "belief"], [0, 1])] : List (Nat × List Str × List Nat))), (("value" : Str), (["setting", "belief"] : List Str), ([] : List (Nat × List Str × List Nat))), (("_law_well" : Str), (["_law_script", "_law_lap"] : List Str), ([] : List (Nat × List Str × List Nat))), (("_law_draw" : Str), (["_law_well_here", "_law_few"] : List Str), ([] : List (Nat × List Str × List Nat))), (("_law_one" : Str), (["_law_well_here", "_law_some"] : List Str), ([] : List (Nat × List Str × List Nat))), (("_law_lean" : Str), (["_law_top", "_law_base"] : List Str), ([] : List (Nat × List Str × List Nat))), (("_law_plus" : Str), (["_law_x", "_law_y"] : List Str), ([] : List (Nat × List Str × List Nat))), (("_law_times" : Str), (["_law_x", "_law_y"] : List Str), ([] : List (Nat × List Str × List Nat))), (("_law_below" : Str), (["_law_x", "_law_y"] : List Str), ([] : List (Nat × List Str × List Nat))), (("_law_dot" : Str), (["_law_one_here", "_law_two"] : List Str), ([] : List (Nat × List Str × List Nat))), (("_law_minus" : Str), (["_law_x", "_law_y"] : List Str), ([] : List (Nat × List Str × List Nat))), (("_law_over" : Str), (["_law_x", "_law_y"] : List Str), ([] : List (Nat × List Str × List Nat))), (("_law_chance" : Str), (["_law_well_here", "_law_n"] : List Str), ([] : List (Nat × List Str × List Nat))), (("_law_number" : Str), (["_law_well_here"] : List Str), ([] : List (Nat × List Str × List Nat))), (("_law_row" : Str), (["_law_well_here", "_law_n"] : List Str), ([] : List (Nat × List Str × List Nat))), (("_law_sizes" : Str), (["_law_well_here"] : List Str), ([] : List (Nat × List Str × List Nat))), (("_law_pays" : Str), (["_law_well_here", "_law_n", "_law_m"] : List Str), ([] : List (Nat × List Str × List Nat))), (("_law_best" : Str), (["_law_pays_here", "_law_chance_here"] : List Str), ([] : List (Nat × List Str × List Nat))), (("_law_choice" : Str), (["_law_world_here", "_law_chance_here"] : List Str), ([] : List (Nat × List Str × List Nat))), (("_law_tied" : Str), (["_law_well_here", "_law_pays_here", "_law_chance_here"] : List Str), ([] : List (Nat × List Str × List Nat))), (("_law_world" : Str), (["_law_well_here"] : List Str), ([] : List (Nat × List Str × List Nat))), (("_law_moved" : Str), (["_law_well_here", "_law_world_here"] : List Str), ([] : List (Nat × List Str × List Nat))), (("_law_there" : Str), (["_law_world_here", "_law_chance_here"] : List Str), ([] : List (Nat × List Str × List Nat))), (("_law_right" : Str), (["_law_well_here"] : List Str), ([] : List (Nat × List Str × List Nat))), (("law" : Str), (["_law_script"] : List Str), ([] : List (Nat × List Str × List Nat)))]
abbrev gcs : List (Str × D) := [("ZERO", (.tup [.int 0, .int 1])), ("MOST_STATES", (.int 4)), ("MOST_ACTIONS", (.int 5)), ("ONE", (.tup [.int 1, .int 1]))]
abbrev inf : Inf := ⟨[], fns, gcs, ["isinstance", "bool", "int", "len", "tuple", "zip", "all", "range", "enumerate", "abs", "divmod", "sum", "list", "any", "repr", "max", "min"], true⟩
theorem ck_is_whole : okD inf tb "is_whole" ["value"] ["value"] (topS 8) = true := by decide +kernel
theorem ck_is_between : okD inf tb "is_between" ["value", "low", "high"] ["value", "low", "high"] (topS 9) = true := by decide +kernel
theorem ck_is_tuple_of : okD inf tb "is_tuple_of" ["value", "many"] ["value", "many"] (topS 10) = true := by decide +kernel
theorem ck_is_ratio : okD inf tb "is_ratio" ["value"] ["value"] (topS 14) = true := by decide +kernel
theorem ck_ratio : okD inf tb "ratio" ["top", "low", "part"] ["top", "low"] (topS 15) = true := by decide +kernel
theorem ck_plus : okD inf tb "plus" ["one", "two"] ["one", "two"] (topS 16) = true := by decide +kernel
theorem ck_times : okD inf tb "times" ["one", "two"] ["one", "two"] (topS 17) = true := by decide +kernel
theorem ck_is_less : okD inf tb "is_less" ["one", "two"] ["one", "two"] (topS 18) = true := by decide +kernel
theorem ck_total : okD inf tb "total" ["fractions", "found", "each"] ["fractions"] (topS 19) = true := by decide +kernel
theorem ck_dot : okD inf tb "dot" ["one", "two", "here", "there"] ["one", "two"] (topS 20) = true := by decide +kernel
theorem ck_greatest_of : okD inf tb "greatest_of" ["fractions", "found", "each"] ["fractions"] (topS 21) = true := by decide +kernel
theorem ck_is_row : okD inf tb "is_row" ["value", "many", "each"] ["value", "many"] (topS 22) = true := by decide +kernel
theorem ck_are_rows : okD inf tb "are_rows" ["value", "actions", "states", "row"] ["value", "actions", "states"] (topS 26) = true := by decide +kernel
theorem ck_is_setting_by : okD inf tb "is_setting_by" ["value", "first", "table"] ["value"] (topS 27) = true := by decide +kernel
theorem ck_many_states : okD inf tb "many_states" ["setting"] ["setting"] (topS 28) = true := by decide +kernel
theorem ck_many_actions : okD inf tb "many_actions" ["setting"] ["setting"] (topS 29) = true := by decide +kernel
theorem ck_is_mix_of : okD inf tb "is_mix_of" ["value", "many", "each"] ["value", "many"] (topS 30) = true := by decide +kernel
theorem ck_is_belief_by : okD inf tb "is_belief_by" ["setting", "value"] ["setting", "value"] (topS 31) = true := by decide +kernel
theorem ck_is_action_by : okD inf tb "is_action_by" ["setting", "value"] ["setting", "value"] (topS 32) = true := by decide +kernel
theorem ck_is_state_by : okD inf tb "is_state_by" ["setting", "value"] ["setting", "value"] (topS 33) = true := by decide +kernel
theorem ck_sure_by : okD inf tb "sure_by" ["many", "state", "each"] ["many", "state"] (topS 34) = true := by decide +kernel
theorem ck_best_by : okD inf tb "best_by" ["setting", "belief", "pays", "most", "row", "action", "each"] ["setting", "belief"] (topS 35) = true := by decide +kernel
theorem ck_worth_by : okD inf tb "worth_by" ["setting", "action", "belief"] ["setting", "action", "belief"] (topS 36) = true := by decide +kernel
theorem ck_value_by : okD inf tb "value_by" ["setting", "belief", "action"] ["setting", "belief"] (topS 37) = true := by decide +kernel
theorem ck_choice_by : okD inf tb "choice_by" ["setting", "belief", "most", "action"] ["setting", "belief"] (topS 38) = true := by decide +kernel
theorem ck_check_setting : okD inf tb "check_setting" ["value"] ["value"] (topS 40) = true := by decide +kernel
theorem ck_check_belief : okD inf tb "check_belief" ["setting", "value"] ["setting", "value"] (topS 41) = true := by decide +kernel
theorem ck_check_believed : okD inf tb "check_believed" ["setting", "belief"] ["setting", "belief"] (topS 42) = true := by decide +kernel
theorem ck_check_action : okD inf tb "check_action" ["setting", "value"] ["setting", "value"] (topS 43) = true := by decide +kernel
theorem ck_check_state : okD inf tb "check_state" ["setting", "value"] ["setting", "value"] (topS 44) = true := by decide +kernel
theorem ck_sure : okD inf tb "sure" ["setting", "state"] ["setting", "state"] (topS 46) = true := by decide +kernel
theorem ck_check_taken : okD inf tb "check_taken" ["setting", "action", "belief"] ["setting", "action", "belief"] (topS 47) = true := by decide +kernel
theorem ck_pay : okD inf tb "pay" ["setting", "action", "belief"] ["setting", "action", "belief"] (topS 48) = true := by decide +kernel
theorem ck_worth : okD inf tb "worth" ["setting", "action", "belief"] ["setting", "action", "belief"] (topS 49) = true := by decide +kernel
theorem ck_best_actions : okD inf tb "best_actions" ["setting", "belief"] ["setting", "belief"] (topS 50) = true := by decide +kernel
theorem ck_choice : okD inf tb "choice" ["setting", "belief"] ["setting", "belief"] (topS 51) = true := by decide +kernel
theorem ck_value : okD inf tb "value" ["setting", "belief"] ["setting", "belief"] (topS 52) = true := by decide +kernel
theorem ck__law_well : okD inf tb "_law_well" ["_law_script", "_law_lap", "_law_mixed", "_law_cell", "_law_own"] ["_law_script", "_law_lap"] (topS 54) = true := by decide +kernel
theorem ck__law_draw : okD inf tb "_law_draw" ["_law_well_here", "_law_few", "_law_mixed", "_law_figure"] ["_law_well_here", "_law_few"] (topS 55) = true := by decide +kernel
theorem ck__law_one : okD inf tb "_law_one" ["_law_well_here", "_law_some"] ["_law_well_here", "_law_some"] (topS 56) = true := by decide +kernel
theorem ck__law_lean : okD inf tb "_law_lean" ["_law_top", "_law_base", "_law_far", "_law_rest"] ["_law_top", "_law_base"] (topS 57) = true := by decide +kernel
theorem ck__law_plus : okD inf tb "_law_plus" ["_law_x", "_law_y"] ["_law_x", "_law_y"] (topS 58) = true := by decide +kernel
theorem ck__law_times : okD inf tb "_law_times" ["_law_x", "_law_y"] ["_law_x", "_law_y"] (topS 59) = true := by decide +kernel
theorem ck__law_below : okD inf tb "_law_below" ["_law_x", "_law_y"] ["_law_x", "_law_y"] (topS 60) = true := by decide +kernel
theorem ck__law_dot : okD inf tb "_law_dot" ["_law_one_here", "_law_two", "_law_found", "_law_x", "_law_y"] ["_law_one_here", "_law_two"] (topS 61) = true := by decide +kernel
theorem ck__law_minus : okD inf tb "_law_minus" ["_law_x", "_law_y"] ["_law_x", "_law_y"] (topS 62) = true := by decide +kernel
theorem ck__law_over : okD inf tb "_law_over" ["_law_x", "_law_y"] ["_law_x", "_law_y"] (topS 63) = true := by decide +kernel
theorem ck__law_chance : okD inf tb "_law_chance" ["_law_well_here", "_law_n", "_law_parts", "_law_at", "_law_part"] ["_law_well_here", "_law_n"] (topS 64) = true := by decide +kernel
theorem ck__law_number : okD inf tb "_law_number" ["_law_well_here", "_law_way"] ["_law_well_here"] (topS 65) = true := by decide +kernel
theorem ck__law_row : okD inf tb "_law_row" ["_law_well_here", "_law_n", "_law_found", "_law_at"] ["_law_well_here", "_law_n"] (topS 66) = true := by decide +kernel
theorem ck__law_sizes : okD inf tb "_law_sizes" ["_law_well_here"] ["_law_well_here"] (topS 67) = true := by decide +kernel
theorem ck__law_pays : okD inf tb "_law_pays" ["_law_well_here", "_law_n", "_law_m", "_law_act", "_law_turn", "_law_rows", "_law_is_near", "_law_row_here", "_law_less", "_law_spot", "_law_way", "_law_one_here", "_law_two", "_law_s", "_law_x", "_law_y"] ["_law_well_here", "_law_n", "_law_m"] (topS 68) = true := by decide +kernel
theorem ck__law_best : okD inf tb "_law_best" ["_law_pays_here", "_law_chance_here", "_law_sums", "_law_row_here", "_law_act", "_law_x"] ["_law_pays_here", "_law_chance_here"] (topS 69) = true := by decide +kernel
theorem ck__law_choice : okD inf tb "_law_choice" ["_law_world_here", "_law_chance_here", "_law_best_here", "_law_sums", "_law_at", "_law_act", "_law_x"] ["_law_world_here", "_law_chance_here"] (topS 70) = true := by decide +kernel
theorem ck__law_tied : okD inf tb "_law_tied" ["_law_well_here", "_law_pays_here", "_law_chance_here", "_law_s", "_law_more", "_law_row_here", "_law_one_here", "_law_two", "_law_k"] ["_law_well_here", "_law_pays_here", "_law_chance_here"] (topS 71) = true := by decide +kernel
theorem ck__law_world : okD inf tb "_law_world" ["_law_well_here", "_law_turn", "_law_act", "_law_n", "_law_m", "_law_pays_here", "_law_chance_here", "_law_worths", "_law_way"] ["_law_well_here"] (topS 72) = true := by decide +kernel
theorem ck__law_moved : okD inf tb "_law_moved" ["_law_well_here", "_law_world_here", "_law_rows", "_law_row_here", "_law_by", "_law_each", "_law_x", "_law_y"] ["_law_well_here", "_law_world_here"] (topS 73) = true := by decide +kernel
theorem ck__law_there : okD inf tb "_law_there" ["_law_world_here", "_law_chance_here", "_law_acts", "_law_told", "_law_best_here", "_law_due", "_law_act", "_law_row_here"] ["_law_world_here", "_law_chance_here"] (topS 74) = true := by decide +kernel
theorem ck__law_right : okD inf tb "_law_right" ["_law_well_here", "_law_s", "_law_told", "_law_more", "_law_world_here", "_law_chance_here", "_law_n", "_law_m", "_law_spot", "_law_best_here", "_law_due", "_law_moved_here", "_law_act", "_law_x", "_law_k"] ["_law_well_here"] (topS 75) = true := by decide +kernel
theorem ck_law : okD inf tb "law" ["_law_script", "_law_lap"] ["_law_script"] (topS 76) = true := by decide +kernel
theorem lk_is_whole : tb.lookup ("is_whole" : Str) = some f_is_whole := by rfl
theorem lk_is_between : tb.lookup ("is_between" : Str) = some f_is_between := by rfl
theorem lk_is_tuple_of : tb.lookup ("is_tuple_of" : Str) = some f_is_tuple_of := by rfl
theorem lk_is_ratio : tb.lookup ("is_ratio" : Str) = some f_is_ratio := by rfl
theorem lk_ratio : tb.lookup ("ratio" : Str) = some f_ratio := by rfl
theorem lk_plus : tb.lookup ("plus" : Str) = some f_plus := by rfl
theorem lk_times : tb.lookup ("times" : Str) = some f_times := by rfl
theorem lk_is_less : tb.lookup ("is_less" : Str) = some f_is_less := by rfl
theorem lk_total : tb.lookup ("total" : Str) = some f_total := by rfl
theorem lk_dot : tb.lookup ("dot" : Str) = some f_dot := by rfl
theorem lk_greatest_of : tb.lookup ("greatest_of" : Str) = some f_greatest_of := by rfl
theorem lk_is_row : tb.lookup ("is_row" : Str) = some f_is_row := by rfl
theorem lk_are_rows : tb.lookup ("are_rows" : Str) = some f_are_rows := by rfl
theorem lk_is_setting_by : tb.lookup ("is_setting_by" : Str) = some f_is_setting_by := by rfl
theorem lk_many_states : tb.lookup ("many_states" : Str) = some f_many_states := by rfl
theorem lk_many_actions : tb.lookup ("many_actions" : Str) = some f_many_actions := by rfl
theorem lk_is_mix_of : tb.lookup ("is_mix_of" : Str) = some f_is_mix_of := by rfl
theorem lk_is_belief_by : tb.lookup ("is_belief_by" : Str) = some f_is_belief_by := by rfl
theorem lk_is_action_by : tb.lookup ("is_action_by" : Str) = some f_is_action_by := by rfl
theorem lk_is_state_by : tb.lookup ("is_state_by" : Str) = some f_is_state_by := by rfl
theorem lk_sure_by : tb.lookup ("sure_by" : Str) = some f_sure_by := by rfl
theorem lk_best_by : tb.lookup ("best_by" : Str) = some f_best_by := by rfl
theorem lk_worth_by : tb.lookup ("worth_by" : Str) = some f_worth_by := by rfl
theorem lk_value_by : tb.lookup ("value_by" : Str) = some f_value_by := by rfl
theorem lk_choice_by : tb.lookup ("choice_by" : Str) = some f_choice_by := by rfl
theorem lk_check_setting : tb.lookup ("check_setting" : Str) = some f_check_setting := by rfl
theorem lk_check_belief : tb.lookup ("check_belief" : Str) = some f_check_belief := by rfl
theorem lk_check_believed : tb.lookup ("check_believed" : Str) = some f_check_believed := by rfl
theorem lk_check_action : tb.lookup ("check_action" : Str) = some f_check_action := by rfl
theorem lk_check_state : tb.lookup ("check_state" : Str) = some f_check_state := by rfl
theorem lk_sure : tb.lookup ("sure" : Str) = some f_sure := by rfl
theorem lk_check_taken : tb.lookup ("check_taken" : Str) = some f_check_taken := by rfl
theorem lk_pay : tb.lookup ("pay" : Str) = some f_pay := by rfl
theorem lk_worth : tb.lookup ("worth" : Str) = some f_worth := by rfl
theorem lk_best_actions : tb.lookup ("best_actions" : Str) = some f_best_actions := by rfl
theorem lk_choice : tb.lookup ("choice" : Str) = some f_choice := by rfl
theorem lk_value : tb.lookup ("value" : Str) = some f_value := by rfl
theorem lk__law_well : tb.lookup ("_law_well" : Str) = some f__law_well := by rfl
theorem lk__law_draw : tb.lookup ("_law_draw" : Str) = some f__law_draw := by rfl
theorem lk__law_one : tb.lookup ("_law_one" : Str) = some f__law_one := by rfl
theorem lk__law_lean : tb.lookup ("_law_lean" : Str) = some f__law_lean := by rfl
theorem lk__law_plus : tb.lookup ("_law_plus" : Str) = some f__law_plus := by rfl
theorem lk__law_times : tb.lookup ("_law_times" : Str) = some f__law_times := by rfl
theorem lk__law_below : tb.lookup ("_law_below" : Str) = some f__law_below := by rfl
theorem lk__law_dot : tb.lookup ("_law_dot" : Str) = some f__law_dot := by rfl
theorem lk__law_minus : tb.lookup ("_law_minus" : Str) = some f__law_minus := by rfl
theorem lk__law_over : tb.lookup ("_law_over" : Str) = some f__law_over := by rfl
theorem lk__law_chance : tb.lookup ("_law_chance" : Str) = some f__law_chance := by rfl
theorem lk__law_number : tb.lookup ("_law_number" : Str) = some f__law_number := by rfl
theorem lk__law_row : tb.lookup ("_law_row" : Str) = some f__law_row := by rfl
theorem lk__law_sizes : tb.lookup ("_law_sizes" : Str) = some f__law_sizes := by rfl
theorem lk__law_pays : tb.lookup ("_law_pays" : Str) = some f__law_pays := by rfl
theorem lk__law_best : tb.lookup ("_law_best" : Str) = some f__law_best := by rfl
theorem lk__law_choice : tb.lookup ("_law_choice" : Str) = some f__law_choice := by rfl
theorem lk__law_tied : tb.lookup ("_law_tied" : Str) = some f__law_tied := by rfl
theorem lk__law_world : tb.lookup ("_law_world" : Str) = some f__law_world := by rfl
theorem lk__law_moved : tb.lookup ("_law_moved" : Str) = some f__law_moved := by rfl
theorem lk__law_there : tb.lookup ("_law_there" : Str) = some f__law_there := by rfl
theorem lk__law_right : tb.lookup ("_law_right" : Str) = some f__law_right := by rfl
theorem lk_law : tb.lookup ("law" : Str) = some f_law := by rfl
end Row
namespace Row
open PySem PySem.Spec PyProof.Rows L2 Ev
variable {N K : Nat} {h : AH}
theorem e_ratio (hK : 1 ≤ K) {a b : Int} (hb : 0 < b) : cF tb N K "ratio" [.int a, .int b] h = some (fr (mkRat a b.toNat), h) := by
  obtain ⟨j, rfl, hj⟩ := dep hK
  rw [call_at lk_ratio (by rfl), fr_mk hb]
  have hg : ((Nat.gcd a.natAbs b.natAbs : Nat) : Int) ≠ 0 := by
    have : 0 < Nat.gcd a.natAbs b.natAbs := Nat.gcd_pos_of_pos_right _ (by omega)
    omega
  simp only [b_ratio, dSs, dS_expr, dS_ret, dS_retN, dS_asg, dS_par, dS_aug, dS_ite, dS_for, dS_wh, dS_pass, dS_brk, dS_cnt, dP, dPs, dI, dG, dGs, dGn_eq, dB, cSeq, cRet, cExpr, cAsg, cPar, setAll, cAug, augI, cIte, aVar, aC, tst, aTup, aLst, aBin, aNeg, aCmp, aChain, aNot, aIte, aIx, aO, aSl, dCut, aCall, aCallk, aBi, aMeth, aFin, aEl, aOT, aSeq, aRange1_eq, aEnum, aZip, wipeE, List.foldl_cons, List.foldl_nil, aCons, aStar, aAndV, aOrV, aAnd, aOr, aNotT, gNm, gTp, gNl, gCn, dIx, seqOf, lstOf, zsrc, dBI, dB1, dB2, Rz.fin, truth, dc_eq_int, dc_ne_int, dc_eq_fr, dc_eq_str, dc_ne_str, dc_lt, dc_le, dc_gt, dc_ge, dc_is, dc_isn, dBin, List.getElem?_cons_zero, List.getElem?_cons_succ, List.set_cons_zero, List.set_cons_succ, List.map_cons, List.map_nil, List.length_cons, List.length_nil, List.replicate, List.cons_append, List.nil_append, List.append_nil, Nat.reduceAdd, Nat.reduceSub, Nat.sub_self, Nat.reduceLeDiff, if_true, if_false, Bool.false_eq_true, reduceIte, Int.cast_ofNat_Int, eq_self, decide_true, decide_false, Bool.not_true, Bool.not_false, Bool.and_self, Bool.and_true, Bool.true_and, Bool.and_false, Bool.false_and, Bool.or_false, Bool.false_or, Bool.or_true, Bool.true_or, isi1, isi2, isi3, isi4, isi5, isi6, ok_int, deq_int, view_int, view_fr, view_str, ok_fr, eq_fr, view_tup, view_lst, ty_fr, tyN, List.any_cons, List.any_nil, atI_0, atI_1, atI_2, atI_3, atI_n, most, runB_rt, runB_nx, fin_same, most, hb, decide_true, hg, ne_eq, not_false_eq_true, fin_same]
theorem e_plus (hK : 2 ≤ K) {x y : Rat} (hx : Sz big x) (hy : Sz big y) : cF tb N K "plus" [fr x, fr y] h = some (fr (x + y), h) := by
  obtain ⟨j, rfl, hj⟩ := dep hK
  rw [call_at lk_plus (by rfl)]
  have e1 := e_ratio (N := N) (h := h) hj (a := x.num * y.den + y.num * x.den) (Int.mul_pos (den_pos x) (den_pos y))
  rw [fr_add] at e1
  simp only [b_plus, dSs, dS_expr, dS_ret, dS_retN, dS_asg, dS_par, dS_aug, dS_ite, dS_for, dS_wh, dS_pass, dS_brk, dS_cnt, dP, dPs, dI, dG, dGs, dGn_eq, dB, cSeq, cRet, cExpr, cAsg, cPar, setAll, cAug, augI, cIte, aVar, aC, tst, aTup, aLst, aBin, aNeg, aCmp, aChain, aNot, aIte, aIx, aO, aSl, dCut, aCall, aCallk, aBi, aMeth, aFin, aEl, aOT, aSeq, aRange1_eq, aEnum, aZip, wipeE, List.foldl_cons, List.foldl_nil, aCons, aStar, aAndV, aOrV, aAnd, aOr, aNotT, gNm, gTp, gNl, gCn, dIx, seqOf, lstOf, zsrc, dBI, dB1, dB2, Rz.fin, truth, dc_eq_int, dc_ne_int, dc_eq_fr, dc_eq_str, dc_ne_str, dc_lt, dc_le, dc_gt, dc_ge, dc_is, dc_isn, dBin, List.getElem?_cons_zero, List.getElem?_cons_succ, List.set_cons_zero, List.set_cons_succ, List.map_cons, List.map_nil, List.length_cons, List.length_nil, List.replicate, List.cons_append, List.nil_append, List.append_nil, Nat.reduceAdd, Nat.reduceSub, Nat.sub_self, Nat.reduceLeDiff, if_true, if_false, Bool.false_eq_true, reduceIte, Int.cast_ofNat_Int, eq_self, decide_true, decide_false, Bool.not_true, Bool.not_false, Bool.and_self, Bool.and_true, Bool.true_and, Bool.and_false, Bool.false_and, Bool.or_false, Bool.false_or, Bool.or_true, Bool.true_or, isi1, isi2, isi3, isi4, isi5, isi6, ok_int, deq_int, view_int, view_fr, view_str, ok_fr, eq_fr, view_tup, view_lst, ty_fr, tyN, List.any_cons, List.any_nil, atI_0, atI_1, atI_2, atI_3, atI_n, most, runB_rt, runB_nx, fin_same, fr, atI_0, atI_1, mul_nd hx hy, mul_nd hy hx, mul_dd hx hy, fin_same] at e1 ⊢
  simp only [e1, dSs, dS_expr, dS_ret, dS_retN, dS_asg, dS_par, dS_aug, dS_ite, dS_for, dS_wh, dS_pass, dS_brk, dS_cnt, dP, dPs, dI, dG, dGs, dGn_eq, dB, cSeq, cRet, cExpr, cAsg, cPar, setAll, cAug, augI, cIte, aVar, aC, tst, aTup, aLst, aBin, aNeg, aCmp, aChain, aNot, aIte, aIx, aO, aSl, dCut, aCall, aCallk, aBi, aMeth, aFin, aEl, aOT, aSeq, aRange1_eq, aEnum, aZip, wipeE, List.foldl_cons, List.foldl_nil, aCons, aStar, aAndV, aOrV, aAnd, aOr, aNotT, gNm, gTp, gNl, gCn, dIx, seqOf, lstOf, zsrc, dBI, dB1, dB2, Rz.fin, truth, dc_eq_int, dc_ne_int, dc_eq_fr, dc_eq_str, dc_ne_str, dc_lt, dc_le, dc_gt, dc_ge, dc_is, dc_isn, dBin, List.getElem?_cons_zero, List.getElem?_cons_succ, List.set_cons_zero, List.set_cons_succ, List.map_cons, List.map_nil, List.length_cons, List.length_nil, List.replicate, List.cons_append, List.nil_append, List.append_nil, Nat.reduceAdd, Nat.reduceSub, Nat.sub_self, Nat.reduceLeDiff, if_true, if_false, Bool.false_eq_true, reduceIte, Int.cast_ofNat_Int, eq_self, decide_true, decide_false, Bool.not_true, Bool.not_false, Bool.and_self, Bool.and_true, Bool.true_and, Bool.and_false, Bool.false_and, Bool.or_false, Bool.false_or, Bool.or_true, Bool.true_or, isi1, isi2, isi3, isi4, isi5, isi6, ok_int, deq_int, view_int, view_fr, view_str, ok_fr, eq_fr, view_tup, view_lst, ty_fr, tyN, List.any_cons, List.any_nil, atI_0, atI_1, atI_2, atI_3, atI_n, most, runB_rt, runB_nx, fin_same]
theorem e_times (hK : 2 ≤ K) {x y : Rat} (hx : Sz big x) (hy : Sz big y) : cF tb N K "times" [fr x, fr y] h = some (fr (x * y), h) := by
  obtain ⟨j, rfl, hj⟩ := dep hK
  rw [call_at lk_times (by rfl)]
  have e1 := e_ratio (N := N) (h := h) hj (a := x.num * y.num) (Int.mul_pos (den_pos x) (den_pos y))
  rw [fr_mul] at e1
  simp only [b_times, dSs, dS_expr, dS_ret, dS_retN, dS_asg, dS_par, dS_aug, dS_ite, dS_for, dS_wh, dS_pass, dS_brk, dS_cnt, dP, dPs, dI, dG, dGs, dGn_eq, dB, cSeq, cRet, cExpr, cAsg, cPar, setAll, cAug, augI, cIte, aVar, aC, tst, aTup, aLst, aBin, aNeg, aCmp, aChain, aNot, aIte, aIx, aO, aSl, dCut, aCall, aCallk, aBi, aMeth, aFin, aEl, aOT, aSeq, aRange1_eq, aEnum, aZip, wipeE, List.foldl_cons, List.foldl_nil, aCons, aStar, aAndV, aOrV, aAnd, aOr, aNotT, gNm, gTp, gNl, gCn, dIx, seqOf, lstOf, zsrc, dBI, dB1, dB2, Rz.fin, truth, dc_eq_int, dc_ne_int, dc_eq_fr, dc_eq_str, dc_ne_str, dc_lt, dc_le, dc_gt, dc_ge, dc_is, dc_isn, dBin, List.getElem?_cons_zero, List.getElem?_cons_succ, List.set_cons_zero, List.set_cons_succ, List.map_cons, List.map_nil, List.length_cons, List.length_nil, List.replicate, List.cons_append, List.nil_append, List.append_nil, Nat.reduceAdd, Nat.reduceSub, Nat.sub_self, Nat.reduceLeDiff, if_true, if_false, Bool.false_eq_true, reduceIte, Int.cast_ofNat_Int, eq_self, decide_true, decide_false, Bool.not_true, Bool.not_false, Bool.and_self, Bool.and_true, Bool.true_and, Bool.and_false, Bool.false_and, Bool.or_false, Bool.false_or, Bool.or_true, Bool.true_or, isi1, isi2, isi3, isi4, isi5, isi6, ok_int, deq_int, view_int, view_fr, view_str, ok_fr, eq_fr, view_tup, view_lst, ty_fr, tyN, List.any_cons, List.any_nil, atI_0, atI_1, atI_2, atI_3, atI_n, most, runB_rt, runB_nx, fin_same, fr, atI_0, atI_1, mul_nn hx hy, mul_dd hx hy, fin_same] at e1 ⊢
  simp only [e1, dSs, dS_expr, dS_ret, dS_retN, dS_asg, dS_par, dS_aug, dS_ite, dS_for, dS_wh, dS_pass, dS_brk, dS_cnt, dP, dPs, dI, dG, dGs, dGn_eq, dB, cSeq, cRet, cExpr, cAsg, cPar, setAll, cAug, augI, cIte, aVar, aC, tst, aTup, aLst, aBin, aNeg, aCmp, aChain, aNot, aIte, aIx, aO, aSl, dCut, aCall, aCallk, aBi, aMeth, aFin, aEl, aOT, aSeq, aRange1_eq, aEnum, aZip, wipeE, List.foldl_cons, List.foldl_nil, aCons, aStar, aAndV, aOrV, aAnd, aOr, aNotT, gNm, gTp, gNl, gCn, dIx, seqOf, lstOf, zsrc, dBI, dB1, dB2, Rz.fin, truth, dc_eq_int, dc_ne_int, dc_eq_fr, dc_eq_str, dc_ne_str, dc_lt, dc_le, dc_gt, dc_ge, dc_is, dc_isn, dBin, List.getElem?_cons_zero, List.getElem?_cons_succ, List.set_cons_zero, List.set_cons_succ, List.map_cons, List.map_nil, List.length_cons, List.length_nil, List.replicate, List.cons_append, List.nil_append, List.append_nil, Nat.reduceAdd, Nat.reduceSub, Nat.sub_self, Nat.reduceLeDiff, if_true, if_false, Bool.false_eq_true, reduceIte, Int.cast_ofNat_Int, eq_self, decide_true, decide_false, Bool.not_true, Bool.not_false, Bool.and_self, Bool.and_true, Bool.true_and, Bool.and_false, Bool.false_and, Bool.or_false, Bool.false_or, Bool.or_true, Bool.true_or, isi1, isi2, isi3, isi4, isi5, isi6, ok_int, deq_int, view_int, view_fr, view_str, ok_fr, eq_fr, view_tup, view_lst, ty_fr, tyN, List.any_cons, List.any_nil, atI_0, atI_1, atI_2, atI_3, atI_n, most, runB_rt, runB_nx, fin_same]
theorem e_less (hK : 1 ≤ K) {x y : Rat} (hx : Sz big x) (hy : Sz big y) : cF tb N K "is_less" [fr x, fr y] h = some (.bl (decide (x < y)), h) := by
  obtain ⟨j, rfl, hj⟩ := dep hK
  rw [call_at lk_is_less (by rfl)]
  simp only [b_is_less, dSs, dS_expr, dS_ret, dS_retN, dS_asg, dS_par, dS_aug, dS_ite, dS_for, dS_wh, dS_pass, dS_brk, dS_cnt, dP, dPs, dI, dG, dGs, dGn_eq, dB, cSeq, cRet, cExpr, cAsg, cPar, setAll, cAug, augI, cIte, aVar, aC, tst, aTup, aLst, aBin, aNeg, aCmp, aChain, aNot, aIte, aIx, aO, aSl, dCut, aCall, aCallk, aBi, aMeth, aFin, aEl, aOT, aSeq, aRange1_eq, aEnum, aZip, wipeE, List.foldl_cons, List.foldl_nil, aCons, aStar, aAndV, aOrV, aAnd, aOr, aNotT, gNm, gTp, gNl, gCn, dIx, seqOf, lstOf, zsrc, dBI, dB1, dB2, Rz.fin, truth, dc_eq_int, dc_ne_int, dc_eq_fr, dc_eq_str, dc_ne_str, dc_lt, dc_le, dc_gt, dc_ge, dc_is, dc_isn, dBin, List.getElem?_cons_zero, List.getElem?_cons_succ, List.set_cons_zero, List.set_cons_succ, List.map_cons, List.map_nil, List.length_cons, List.length_nil, List.replicate, List.cons_append, List.nil_append, List.append_nil, Nat.reduceAdd, Nat.reduceSub, Nat.sub_self, Nat.reduceLeDiff, if_true, if_false, Bool.false_eq_true, reduceIte, Int.cast_ofNat_Int, eq_self, decide_true, decide_false, Bool.not_true, Bool.not_false, Bool.and_self, Bool.and_true, Bool.true_and, Bool.and_false, Bool.false_and, Bool.or_false, Bool.false_or, Bool.or_true, Bool.true_or, isi1, isi2, isi3, isi4, isi5, isi6, ok_int, deq_int, view_int, view_fr, view_str, ok_fr, eq_fr, view_tup, view_lst, ty_fr, tyN, List.any_cons, List.any_nil, atI_0, atI_1, atI_2, atI_3, atI_n, most, runB_rt, runB_nx, fin_same, fr, atI_0, atI_1, mul_nd hx hy, mul_nd hy hx, fin_same]
  simp only [Rat.lt_iff]
theorem e_total (hK : 3 ≤ K) {l : List Rat} (hl : ∀ x ∈ l, Sz med x) (n : l.length ≤ 50) {s : D} (hs : s = .lst (l.map fr) ∨ s = .tup (l.map fr)) : cF tb N K "total" [s] h = some (fr (sumR l), h) := by
  obtain ⟨j, rfl, hj⟩ := dep hK
  rw [call_at lk_total (by rfl)]
  have loop : forL none (bodyF (cF tb N j) N (.name 2) b_total_1) (l.map fr) [some s, some (fr 0), none] h = some (.nx [some s, some (fr (sumR l)), lastO fr l none] h) := by
    refine forL_fold (α := Rat) fr (fun a z => [some s, some (fr a), z]) (fun s x => s + x) l 0 none fun pre b post e z => ?_
    have hb : Sz big b := (hl b (by rw [e]; simp)).mono (by decide)
    have hp : Sz big (pre.foldl (fun s x => s + x) 0) := by
      have := Sz.sum (b := med) (g := fun x => x) pre sz0 fun y hy => hl y (by rw [e]; simp [hy])
      refine this.mono ?_
      have l2 : pre.length ≤ 50 := by rw [e, List.length_append] at n; omega
      have := Nat.mul_le_mul_right (med + 1) l2
      unfold med big at *
      omega
    simp only [bodyF, b_total_1, dSs, dS_expr, dS_ret, dS_retN, dS_asg, dS_par, dS_aug, dS_ite, dS_for, dS_wh, dS_pass, dS_brk, dS_cnt, dP, dPs, dI, dG, dGs, dGn_eq, dB, cSeq, cRet, cExpr, cAsg, cPar, setAll, cAug, augI, cIte, aVar, aC, tst, aTup, aLst, aBin, aNeg, aCmp, aChain, aNot, aIte, aIx, aO, aSl, dCut, aCall, aCallk, aBi, aMeth, aFin, aEl, aOT, aSeq, aRange1_eq, aEnum, aZip, wipeE, List.foldl_cons, List.foldl_nil, aCons, aStar, aAndV, aOrV, aAnd, aOr, aNotT, gNm, gTp, gNl, gCn, dIx, seqOf, lstOf, zsrc, dBI, dB1, dB2, Rz.fin, truth, dc_eq_int, dc_ne_int, dc_eq_fr, dc_eq_str, dc_ne_str, dc_lt, dc_le, dc_gt, dc_ge, dc_is, dc_isn, dBin, List.getElem?_cons_zero, List.getElem?_cons_succ, List.set_cons_zero, List.set_cons_succ, List.map_cons, List.map_nil, List.length_cons, List.length_nil, List.replicate, List.cons_append, List.nil_append, List.append_nil, Nat.reduceAdd, Nat.reduceSub, Nat.sub_self, Nat.reduceLeDiff, if_true, if_false, Bool.false_eq_true, reduceIte, Int.cast_ofNat_Int, eq_self, decide_true, decide_false, Bool.not_true, Bool.not_false, Bool.and_self, Bool.and_true, Bool.true_and, Bool.and_false, Bool.false_and, Bool.or_false, Bool.false_or, Bool.or_true, Bool.true_or, isi1, isi2, isi3, isi4, isi5, isi6, ok_int, deq_int, view_int, view_fr, view_str, ok_fr, eq_fr, view_tup, view_lst, ty_fr, tyN, List.any_cons, List.any_nil, atI_0, atI_1, atI_2, atI_3, atI_n, most, runB_rt, runB_nx, fin_same, e_plus (N := N) hj hp hb]
  rcases hs with rfl | rfl <;> simp only [b_total, dSs, dS_expr, dS_ret, dS_retN, dS_asg, dS_par, dS_aug, dS_ite, dS_for, dS_wh, dS_pass, dS_brk, dS_cnt, dP, dPs, dI, dG, dGs, dGn_eq, dB, cSeq, cRet, cExpr, cAsg, cPar, setAll, cAug, augI, cIte, aVar, aC, tst, aTup, aLst, aBin, aNeg, aCmp, aChain, aNot, aIte, aIx, aO, aSl, dCut, aCall, aCallk, aBi, aMeth, aFin, aEl, aOT, aSeq, aRange1_eq, aEnum, aZip, wipeE, List.foldl_cons, List.foldl_nil, aCons, aStar, aAndV, aOrV, aAnd, aOr, aNotT, gNm, gTp, gNl, gCn, dIx, seqOf, lstOf, zsrc, dBI, dB1, dB2, Rz.fin, truth, dc_eq_int, dc_ne_int, dc_eq_fr, dc_eq_str, dc_ne_str, dc_lt, dc_le, dc_gt, dc_ge, dc_is, dc_isn, dBin, List.getElem?_cons_zero, List.getElem?_cons_succ, List.set_cons_zero, List.set_cons_succ, List.map_cons, List.map_nil, List.length_cons, List.length_nil, List.replicate, List.cons_append, List.nil_append, List.append_nil, Nat.reduceAdd, Nat.reduceSub, Nat.sub_self, Nat.reduceLeDiff, if_true, if_false, Bool.false_eq_true, reduceIte, Int.cast_ofNat_Int, eq_self, decide_true, decide_false, Bool.not_true, Bool.not_false, Bool.and_self, Bool.and_true, Bool.true_and, Bool.and_false, Bool.false_and, Bool.or_false, Bool.false_or, Bool.or_true, Bool.true_or, isi1, isi2, isi3, isi4, isi5, isi6, ok_int, deq_int, view_int, view_fr, view_str, ok_fr, eq_fr, view_tup, view_lst, ty_fr, tyN, List.any_cons, List.any_nil, atI_0, atI_1, atI_2, atI_3, atI_n, most, runB_rt, runB_nx, fin_same, fr0, loop, fin_same]
theorem e_dot (hK : 4 ≤ K) {a b : List Rat} (ha : ∀ x ∈ a, Sz 40000 x) (hb : ∀ x ∈ b, Sz 40000 x) (n : a.length ≤ 50) : cF tb N K "dot" [rowD a, rowD b] h = some (fr (dotR a b), h) := by
  obtain ⟨j, rfl, hj⟩ := dep hK
  rw [call_at lk_dot (by rfl)]
  have nz : (a.zip b).length ≤ 50 := by rw [List.length_zip]; omega
  have mem : ∀ p ∈ a.zip b, Sz 40000 p.1 ∧ Sz 40000 p.2 := fun p hp => ⟨ha _ (List.of_mem_zip hp).1, hb _ (List.of_mem_zip hp).2⟩
  have lc : lcL none (gnF (cF tb N j) g_dot_1 [some (rowD a), some (rowD b), none, none]) (zipD (a.map fr) (b.map fr)) [] h = some (((a.zip b).map fun p => p.1 * p.2).map fr, h) := by
    rw [zipD_map, List.map_map]
    refine lc_mapR _ _ (fun p hp => ?_) (by unfold most; omega)
    have := e_times (N := N) (h := h) (K := j) (by omega) ((mem p hp).1.mono (by decide)) ((mem p hp).2.mono (by decide))
    simp only [gnF, g_dot_1, dSs, dS_expr, dS_ret, dS_retN, dS_asg, dS_par, dS_aug, dS_ite, dS_for, dS_wh, dS_pass, dS_brk, dS_cnt, dP, dPs, dI, dG, dGs, dGn_eq, dB, cSeq, cRet, cExpr, cAsg, cPar, setAll, cAug, augI, cIte, aVar, aC, tst, aTup, aLst, aBin, aNeg, aCmp, aChain, aNot, aIte, aIx, aO, aSl, dCut, aCall, aCallk, aBi, aMeth, aFin, aEl, aOT, aSeq, aRange1_eq, aEnum, aZip, wipeE, List.foldl_cons, List.foldl_nil, aCons, aStar, aAndV, aOrV, aAnd, aOr, aNotT, gNm, gTp, gNl, gCn, dIx, seqOf, lstOf, zsrc, dBI, dB1, dB2, Rz.fin, truth, dc_eq_int, dc_ne_int, dc_eq_fr, dc_eq_str, dc_ne_str, dc_lt, dc_le, dc_gt, dc_ge, dc_is, dc_isn, dBin, List.getElem?_cons_zero, List.getElem?_cons_succ, List.set_cons_zero, List.set_cons_succ, List.map_cons, List.map_nil, List.length_cons, List.length_nil, List.replicate, List.cons_append, List.nil_append, List.append_nil, Nat.reduceAdd, Nat.reduceSub, Nat.sub_self, Nat.reduceLeDiff, if_true, if_false, Bool.false_eq_true, reduceIte, Int.cast_ofNat_Int, eq_self, decide_true, decide_false, Bool.not_true, Bool.not_false, Bool.and_self, Bool.and_true, Bool.true_and, Bool.and_false, Bool.false_and, Bool.or_false, Bool.false_or, Bool.or_true, Bool.true_or, isi1, isi2, isi3, isi4, isi5, isi6, ok_int, deq_int, view_int, view_fr, view_str, ok_fr, eq_fr, view_tup, view_lst, ty_fr, tyN, List.any_cons, List.any_nil, atI_0, atI_1, atI_2, atI_3, atI_n, most, runB_rt, runB_nx, fin_same, this, rowD] <;> rfl
  have tot := e_total (N := N) (h := h) (K := j) hj (l := (a.zip b).map fun p => p.1 * p.2) (fun x hx => by
    obtain ⟨p, hp, rfl⟩ := List.mem_map.mp hx
    exact ((mem p hp).1.mul (mem p hp).2).mono (by decide)) (by rw [List.length_map]; exact nz) (.inl rfl)
  have e2 : sumR ((a.zip b).map fun p => p.1 * p.2) = dotR a b := by
    unfold sumR dotR
    rw [List.foldl_map]
  rw [e2] at tot
  simp only [b_dot, dSs, dS_expr, dS_ret, dS_retN, dS_asg, dS_par, dS_aug, dS_ite, dS_for, dS_wh, dS_pass, dS_brk, dS_cnt, dP, dPs, dI, dG, dGs, dGn_eq, dB, cSeq, cRet, cExpr, cAsg, cPar, setAll, cAug, augI, cIte, aVar, aC, tst, aTup, aLst, aBin, aNeg, aCmp, aChain, aNot, aIte, aIx, aO, aSl, dCut, aCall, aCallk, aBi, aMeth, aFin, aEl, aOT, aSeq, aRange1_eq, aEnum, aZip, wipeE, List.foldl_cons, List.foldl_nil, aCons, aStar, aAndV, aOrV, aAnd, aOr, aNotT, gNm, gTp, gNl, gCn, dIx, seqOf, lstOf, zsrc, dBI, dB1, dB2, Rz.fin, truth, dc_eq_int, dc_ne_int, dc_eq_fr, dc_eq_str, dc_ne_str, dc_lt, dc_le, dc_gt, dc_ge, dc_is, dc_isn, dBin, List.getElem?_cons_zero, List.getElem?_cons_succ, List.set_cons_zero, List.set_cons_succ, List.map_cons, List.map_nil, List.length_cons, List.length_nil, List.replicate, List.cons_append, List.nil_append, List.append_nil, Nat.reduceAdd, Nat.reduceSub, Nat.sub_self, Nat.reduceLeDiff, if_true, if_false, Bool.false_eq_true, reduceIte, Int.cast_ofNat_Int, eq_self, decide_true, decide_false, Bool.not_true, Bool.not_false, Bool.and_self, Bool.and_true, Bool.true_and, Bool.and_false, Bool.false_and, Bool.or_false, Bool.false_or, Bool.or_true, Bool.true_or, isi1, isi2, isi3, isi4, isi5, isi6, ok_int, deq_int, view_int, view_fr, view_str, ok_fr, eq_fr, view_tup, view_lst, ty_fr, tyN, List.any_cons, List.any_nil, atI_0, atI_1, atI_2, atI_3, atI_n, most, runB_rt, runB_nx, fin_same, gs_dot_1, rowD] at lc ⊢
  simp only [lc, tot, dSs, dS_expr, dS_ret, dS_retN, dS_asg, dS_par, dS_aug, dS_ite, dS_for, dS_wh, dS_pass, dS_brk, dS_cnt, dP, dPs, dI, dG, dGs, dGn_eq, dB, cSeq, cRet, cExpr, cAsg, cPar, setAll, cAug, augI, cIte, aVar, aC, tst, aTup, aLst, aBin, aNeg, aCmp, aChain, aNot, aIte, aIx, aO, aSl, dCut, aCall, aCallk, aBi, aMeth, aFin, aEl, aOT, aSeq, aRange1_eq, aEnum, aZip, wipeE, List.foldl_cons, List.foldl_nil, aCons, aStar, aAndV, aOrV, aAnd, aOr, aNotT, gNm, gTp, gNl, gCn, dIx, seqOf, lstOf, zsrc, dBI, dB1, dB2, Rz.fin, truth, dc_eq_int, dc_ne_int, dc_eq_fr, dc_eq_str, dc_ne_str, dc_lt, dc_le, dc_gt, dc_ge, dc_is, dc_isn, dBin, List.getElem?_cons_zero, List.getElem?_cons_succ, List.set_cons_zero, List.set_cons_succ, List.map_cons, List.map_nil, List.length_cons, List.length_nil, List.replicate, List.cons_append, List.nil_append, List.append_nil, Nat.reduceAdd, Nat.reduceSub, Nat.sub_self, Nat.reduceLeDiff, if_true, if_false, Bool.false_eq_true, reduceIte, Int.cast_ofNat_Int, eq_self, decide_true, decide_false, Bool.not_true, Bool.not_false, Bool.and_self, Bool.and_true, Bool.true_and, Bool.and_false, Bool.false_and, Bool.or_false, Bool.false_or, Bool.or_true, Bool.true_or, isi1, isi2, isi3, isi4, isi5, isi6, ok_int, deq_int, view_int, view_fr, view_str, ok_fr, eq_fr, view_tup, view_lst, ty_fr, tyN, List.any_cons, List.any_nil, atI_0, atI_1, atI_2, atI_3, atI_n, most, runB_rt, runB_nx, fin_same]
theorem e_greatest (hK : 2 ≤ K) {x : Rat} {l : List Rat} (hx : Sz big x) (hl : ∀ y ∈ l, Sz big y) : cF tb N K "greatest_of" [.lst ((x :: l).map fr)] h = some (fr (maxR x l), h) := by
  obtain ⟨j, rfl, hj⟩ := dep hK
  rw [call_at lk_greatest_of (by rfl)]
  have loop : forL none (bodyF (cF tb N j) N (.name 2) b_greatest_of_1) (l.map fr) [some (.lst ((x :: l).map fr)), some (fr x), none] h = some (.nx [some (.lst ((x :: l).map fr)), some (fr (maxR x l)), lastO fr l none] h) := by
    refine forL_fold (α := Rat) fr (fun a z => [some (.lst ((x :: l).map fr)), some (fr a), z]) (fun m e => if m < e then e else m) l x none fun pre b post e z => ?_
    have hb : Sz big b := hl b (by rw [e]; simp)
    have hp : ∀ (q : List Rat) (m : Rat), (∀ y ∈ q, Sz big y) → Sz big m → Sz big (q.foldl (fun m e => if m < e then e else m) m) := by
      intro q
      induction q with
      | nil => intro m _ hm; exact hm
      | cons y q ih =>
        intro m hq hm
        rw [List.foldl_cons]
        refine ih _ (fun z hz => hq z (List.mem_cons_of_mem _ hz)) ?_
        by_cases c : m < y
        · rw [if_pos c]; exact hq y List.mem_cons_self
        · rw [if_neg c]; exact hm
    have hp := hp pre x (fun y hy => hl y (by rw [e]; simp [hy])) hx
    have e1 := e_less (N := N) (h := h) (K := j) hj hp hb
    by_cases c : pre.foldl (fun m e => if m < e then e else m) x < b
    · simp only [bodyF, b_greatest_of_1, dSs, dS_expr, dS_ret, dS_retN, dS_asg, dS_par, dS_aug, dS_ite, dS_for, dS_wh, dS_pass, dS_brk, dS_cnt, dP, dPs, dI, dG, dGs, dGn_eq, dB, cSeq, cRet, cExpr, cAsg, cPar, setAll, cAug, augI, cIte, aVar, aC, tst, aTup, aLst, aBin, aNeg, aCmp, aChain, aNot, aIte, aIx, aO, aSl, dCut, aCall, aCallk, aBi, aMeth, aFin, aEl, aOT, aSeq, aRange1_eq, aEnum, aZip, wipeE, List.foldl_cons, List.foldl_nil, aCons, aStar, aAndV, aOrV, aAnd, aOr, aNotT, gNm, gTp, gNl, gCn, dIx, seqOf, lstOf, zsrc, dBI, dB1, dB2, Rz.fin, truth, dc_eq_int, dc_ne_int, dc_eq_fr, dc_eq_str, dc_ne_str, dc_lt, dc_le, dc_gt, dc_ge, dc_is, dc_isn, dBin, List.getElem?_cons_zero, List.getElem?_cons_succ, List.set_cons_zero, List.set_cons_succ, List.map_cons, List.map_nil, List.length_cons, List.length_nil, List.replicate, List.cons_append, List.nil_append, List.append_nil, Nat.reduceAdd, Nat.reduceSub, Nat.sub_self, Nat.reduceLeDiff, if_true, if_false, Bool.false_eq_true, reduceIte, Int.cast_ofNat_Int, eq_self, decide_true, decide_false, Bool.not_true, Bool.not_false, Bool.and_self, Bool.and_true, Bool.true_and, Bool.and_false, Bool.false_and, Bool.or_false, Bool.false_or, Bool.or_true, Bool.true_or, isi1, isi2, isi3, isi4, isi5, isi6, ok_int, deq_int, view_int, view_fr, view_str, ok_fr, eq_fr, view_tup, view_lst, ty_fr, tyN, List.any_cons, List.any_nil, atI_0, atI_1, atI_2, atI_3, atI_n, most, runB_rt, runB_nx, fin_same, e1, c, decide_true]
    · simp only [bodyF, b_greatest_of_1, dSs, dS_expr, dS_ret, dS_retN, dS_asg, dS_par, dS_aug, dS_ite, dS_for, dS_wh, dS_pass, dS_brk, dS_cnt, dP, dPs, dI, dG, dGs, dGn_eq, dB, cSeq, cRet, cExpr, cAsg, cPar, setAll, cAug, augI, cIte, aVar, aC, tst, aTup, aLst, aBin, aNeg, aCmp, aChain, aNot, aIte, aIx, aO, aSl, dCut, aCall, aCallk, aBi, aMeth, aFin, aEl, aOT, aSeq, aRange1_eq, aEnum, aZip, wipeE, List.foldl_cons, List.foldl_nil, aCons, aStar, aAndV, aOrV, aAnd, aOr, aNotT, gNm, gTp, gNl, gCn, dIx, seqOf, lstOf, zsrc, dBI, dB1, dB2, Rz.fin, truth, dc_eq_int, dc_ne_int, dc_eq_fr, dc_eq_str, dc_ne_str, dc_lt, dc_le, dc_gt, dc_ge, dc_is, dc_isn, dBin, List.getElem?_cons_zero, List.getElem?_cons_succ, List.set_cons_zero, List.set_cons_succ, List.map_cons, List.map_nil, List.length_cons, List.length_nil, List.replicate, List.cons_append, List.nil_append, List.append_nil, Nat.reduceAdd, Nat.reduceSub, Nat.sub_self, Nat.reduceLeDiff, if_true, if_false, Bool.false_eq_true, reduceIte, Int.cast_ofNat_Int, eq_self, decide_true, decide_false, Bool.not_true, Bool.not_false, Bool.and_self, Bool.and_true, Bool.true_and, Bool.and_false, Bool.false_and, Bool.or_false, Bool.false_or, Bool.or_true, Bool.true_or, isi1, isi2, isi3, isi4, isi5, isi6, ok_int, deq_int, view_int, view_fr, view_str, ok_fr, eq_fr, view_tup, view_lst, ty_fr, tyN, List.any_cons, List.any_nil, atI_0, atI_1, atI_2, atI_3, atI_n, most, runB_rt, runB_nx, fin_same, e1, c, decide_false]
  have cut1 : cut ((x :: l).map fr) (some 1) none = l.map fr := by
    unfold cut
    rw [List.map_cons, List.length_cons, HT.sIx_none, show HT.sIx ((l.map fr).length + 1) 0 (some 1) = min 1 ((l.map fr).length + 1) from HT.sIx_nat ((l.map fr).length + 1) 0 1, show min 1 ((l.map fr).length + 1) = 1 by omega, List.drop_succ_cons, List.drop_zero, List.take_of_length_le (by omega)]
  simp only [List.map_cons] at cut1 loop ⊢
  simp only [b_greatest_of, dSs, dS_expr, dS_ret, dS_retN, dS_asg, dS_par, dS_aug, dS_ite, dS_for, dS_wh, dS_pass, dS_brk, dS_cnt, dP, dPs, dI, dG, dGs, dGn_eq, dB, cSeq, cRet, cExpr, cAsg, cPar, setAll, cAug, augI, cIte, aVar, aC, tst, aTup, aLst, aBin, aNeg, aCmp, aChain, aNot, aIte, aIx, aO, aSl, dCut, aCall, aCallk, aBi, aMeth, aFin, aEl, aOT, aSeq, aRange1_eq, aEnum, aZip, wipeE, List.foldl_cons, List.foldl_nil, aCons, aStar, aAndV, aOrV, aAnd, aOr, aNotT, gNm, gTp, gNl, gCn, dIx, seqOf, lstOf, zsrc, dBI, dB1, dB2, Rz.fin, truth, dc_eq_int, dc_ne_int, dc_eq_fr, dc_eq_str, dc_ne_str, dc_lt, dc_le, dc_gt, dc_ge, dc_is, dc_isn, dBin, List.getElem?_cons_zero, List.getElem?_cons_succ, List.set_cons_zero, List.set_cons_succ, List.map_cons, List.map_nil, List.length_cons, List.length_nil, List.replicate, List.cons_append, List.nil_append, List.append_nil, Nat.reduceAdd, Nat.reduceSub, Nat.sub_self, Nat.reduceLeDiff, if_true, if_false, Bool.false_eq_true, reduceIte, Int.cast_ofNat_Int, eq_self, decide_true, decide_false, Bool.not_true, Bool.not_false, Bool.and_self, Bool.and_true, Bool.true_and, Bool.and_false, Bool.false_and, Bool.or_false, Bool.false_or, Bool.or_true, Bool.true_or, isi1, isi2, isi3, isi4, isi5, isi6, ok_int, deq_int, view_int, view_fr, view_str, ok_fr, eq_fr, view_tup, view_lst, ty_fr, tyN, List.any_cons, List.any_nil, atI_0, atI_1, atI_2, atI_3, atI_n, most, runB_rt, runB_nx, fin_same, cut1, atI_0, loop, fin_same]
end Row
namespace Row
open PySem PySem.Spec PyProof.Rows L2 Ev
variable {N K : Nat} {h : AH}
theorem e_whole (hK : 1 ≤ K) {i : Int} : cF tb N K "is_whole" [.int i] h = some (.bl true, h) := by
  obtain ⟨j, rfl, hj⟩ := dep hK
  rw [call_at lk_is_whole (by rfl)]
  simp only [b_is_whole, dSs, dS_expr, dS_ret, dS_retN, dS_asg, dS_par, dS_aug, dS_ite, dS_for, dS_wh, dS_pass, dS_brk, dS_cnt, dP, dPs, dI, dG, dGs, dGn_eq, dB, cSeq, cRet, cExpr, cAsg, cPar, setAll, cAug, augI, cIte, aVar, aC, tst, aTup, aLst, aBin, aNeg, aCmp, aChain, aNot, aIte, aIx, aO, aSl, dCut, aCall, aCallk, aBi, aMeth, aFin, aEl, aOT, aSeq, aRange1_eq, aEnum, aZip, wipeE, List.foldl_cons, List.foldl_nil, aCons, aStar, aAndV, aOrV, aAnd, aOr, aNotT, gNm, gTp, gNl, gCn, dIx, seqOf, lstOf, zsrc, dBI, dB1, dB2, Rz.fin, truth, dc_eq_int, dc_ne_int, dc_eq_fr, dc_eq_str, dc_ne_str, dc_lt, dc_le, dc_gt, dc_ge, dc_is, dc_isn, dBin, List.getElem?_cons_zero, List.getElem?_cons_succ, List.set_cons_zero, List.set_cons_succ, List.map_cons, List.map_nil, List.length_cons, List.length_nil, List.replicate, List.cons_append, List.nil_append, List.append_nil, Nat.reduceAdd, Nat.reduceSub, Nat.sub_self, Nat.reduceLeDiff, if_true, if_false, Bool.false_eq_true, reduceIte, Int.cast_ofNat_Int, eq_self, decide_true, decide_false, Bool.not_true, Bool.not_false, Bool.and_self, Bool.and_true, Bool.true_and, Bool.and_false, Bool.false_and, Bool.or_false, Bool.false_or, Bool.or_true, Bool.true_or, isi1, isi2, isi3, isi4, isi5, isi6, ok_int, deq_int, view_int, view_fr, view_str, ok_fr, eq_fr, view_tup, view_lst, ty_fr, tyN, List.any_cons, List.any_nil, atI_0, atI_1, atI_2, atI_3, atI_n, most, runB_rt, runB_nx, fin_same]
theorem e_tuple_of (hK : 1 ≤ K) {l : List D} {n : Int} : cF tb N K "is_tuple_of" [.tup l, .int n] h = some (.bl (decide ((l.length : Int) = n)), h) := by
  obtain ⟨j, rfl, hj⟩ := dep hK
  rw [call_at lk_is_tuple_of (by rfl)]
  simp only [b_is_tuple_of, dSs, dS_expr, dS_ret, dS_retN, dS_asg, dS_par, dS_aug, dS_ite, dS_for, dS_wh, dS_pass, dS_brk, dS_cnt, dP, dPs, dI, dG, dGs, dGn_eq, dB, cSeq, cRet, cExpr, cAsg, cPar, setAll, cAug, augI, cIte, aVar, aC, tst, aTup, aLst, aBin, aNeg, aCmp, aChain, aNot, aIte, aIx, aO, aSl, dCut, aCall, aCallk, aBi, aMeth, aFin, aEl, aOT, aSeq, aRange1_eq, aEnum, aZip, wipeE, List.foldl_cons, List.foldl_nil, aCons, aStar, aAndV, aOrV, aAnd, aOr, aNotT, gNm, gTp, gNl, gCn, dIx, seqOf, lstOf, zsrc, dBI, dB1, dB2, Rz.fin, truth, dc_eq_int, dc_ne_int, dc_eq_fr, dc_eq_str, dc_ne_str, dc_lt, dc_le, dc_gt, dc_ge, dc_is, dc_isn, dBin, List.getElem?_cons_zero, List.getElem?_cons_succ, List.set_cons_zero, List.set_cons_succ, List.map_cons, List.map_nil, List.length_cons, List.length_nil, List.replicate, List.cons_append, List.nil_append, List.append_nil, Nat.reduceAdd, Nat.reduceSub, Nat.sub_self, Nat.reduceLeDiff, if_true, if_false, Bool.false_eq_true, reduceIte, Int.cast_ofNat_Int, eq_self, decide_true, decide_false, Bool.not_true, Bool.not_false, Bool.and_self, Bool.and_true, Bool.true_and, Bool.and_false, Bool.false_and, Bool.or_false, Bool.false_or, Bool.or_true, Bool.true_or, isi1, isi2, isi3, isi4, isi5, isi6, ok_int, deq_int, view_int, view_fr, view_str, ok_fr, eq_fr, view_tup, view_lst, ty_fr, tyN, List.any_cons, List.any_nil, atI_0, atI_1, atI_2, atI_3, atI_n, most, runB_rt, runB_nx, fin_same]
theorem e_between (hK : 2 ≤ K) {i a b : Int} (h1 : a ≤ i) (h2 : i ≤ b) : cF tb N K "is_between" [.int i, .int a, .int b] h = some (.bl true, h) := by
  obtain ⟨j, rfl, hj⟩ := dep hK
  rw [call_at lk_is_between (by rfl)]
  simp only [b_is_between, dSs, dS_expr, dS_ret, dS_retN, dS_asg, dS_par, dS_aug, dS_ite, dS_for, dS_wh, dS_pass, dS_brk, dS_cnt, dP, dPs, dI, dG, dGs, dGn_eq, dB, cSeq, cRet, cExpr, cAsg, cPar, setAll, cAug, augI, cIte, aVar, aC, tst, aTup, aLst, aBin, aNeg, aCmp, aChain, aNot, aIte, aIx, aO, aSl, dCut, aCall, aCallk, aBi, aMeth, aFin, aEl, aOT, aSeq, aRange1_eq, aEnum, aZip, wipeE, List.foldl_cons, List.foldl_nil, aCons, aStar, aAndV, aOrV, aAnd, aOr, aNotT, gNm, gTp, gNl, gCn, dIx, seqOf, lstOf, zsrc, dBI, dB1, dB2, Rz.fin, truth, dc_eq_int, dc_ne_int, dc_eq_fr, dc_eq_str, dc_ne_str, dc_lt, dc_le, dc_gt, dc_ge, dc_is, dc_isn, dBin, List.getElem?_cons_zero, List.getElem?_cons_succ, List.set_cons_zero, List.set_cons_succ, List.map_cons, List.map_nil, List.length_cons, List.length_nil, List.replicate, List.cons_append, List.nil_append, List.append_nil, Nat.reduceAdd, Nat.reduceSub, Nat.sub_self, Nat.reduceLeDiff, if_true, if_false, Bool.false_eq_true, reduceIte, Int.cast_ofNat_Int, eq_self, decide_true, decide_false, Bool.not_true, Bool.not_false, Bool.and_self, Bool.and_true, Bool.true_and, Bool.and_false, Bool.false_and, Bool.or_false, Bool.false_or, Bool.or_true, Bool.true_or, isi1, isi2, isi3, isi4, isi5, isi6, ok_int, deq_int, view_int, view_fr, view_str, ok_fr, eq_fr, view_tup, view_lst, ty_fr, tyN, List.any_cons, List.any_nil, atI_0, atI_1, atI_2, atI_3, atI_n, most, runB_rt, runB_nx, fin_same, e_whole (N := N) (h := h) hj, h1, h2]
theorem e_is_ratio (hK : 2 ≤ K) {q : Rat} : cF tb N K "is_ratio" [fr q] h = some (.bl true, h) := by
  obtain ⟨j, rfl, hj⟩ := dep hK
  rw [call_at lk_is_ratio (by rfl)]
  have e1 := e_tuple_of (N := N) (h := h) hj (l := [.int q.num, .int q.den]) (n := 2)
  have e2 := e_whole (N := N) (h := h) hj (i := q.num)
  have e3 := e_whole (N := N) (h := h) hj (i := q.den)
  have e4 := den_pos q
  simp only [b_is_ratio, dSs, dS_expr, dS_ret, dS_retN, dS_asg, dS_par, dS_aug, dS_ite, dS_for, dS_wh, dS_pass, dS_brk, dS_cnt, dP, dPs, dI, dG, dGs, dGn_eq, dB, cSeq, cRet, cExpr, cAsg, cPar, setAll, cAug, augI, cIte, aVar, aC, tst, aTup, aLst, aBin, aNeg, aCmp, aChain, aNot, aIte, aIx, aO, aSl, dCut, aCall, aCallk, aBi, aMeth, aFin, aEl, aOT, aSeq, aRange1_eq, aEnum, aZip, wipeE, List.foldl_cons, List.foldl_nil, aCons, aStar, aAndV, aOrV, aAnd, aOr, aNotT, gNm, gTp, gNl, gCn, dIx, seqOf, lstOf, zsrc, dBI, dB1, dB2, Rz.fin, truth, dc_eq_int, dc_ne_int, dc_eq_fr, dc_eq_str, dc_ne_str, dc_lt, dc_le, dc_gt, dc_ge, dc_is, dc_isn, dBin, List.getElem?_cons_zero, List.getElem?_cons_succ, List.set_cons_zero, List.set_cons_succ, List.map_cons, List.map_nil, List.length_cons, List.length_nil, List.replicate, List.cons_append, List.nil_append, List.append_nil, Nat.reduceAdd, Nat.reduceSub, Nat.sub_self, Nat.reduceLeDiff, if_true, if_false, Bool.false_eq_true, reduceIte, Int.cast_ofNat_Int, eq_self, decide_true, decide_false, Bool.not_true, Bool.not_false, Bool.and_self, Bool.and_true, Bool.true_and, Bool.and_false, Bool.false_and, Bool.or_false, Bool.false_or, Bool.or_true, Bool.true_or, isi1, isi2, isi3, isi4, isi5, isi6, ok_int, deq_int, view_int, view_fr, view_str, ok_fr, eq_fr, view_tup, view_lst, ty_fr, tyN, List.any_cons, List.any_nil, atI_0, atI_1, atI_2, atI_3, atI_n, most, runB_rt, runB_nx, fin_same, fr, e1, e2, e3, e4, gcd_fr]
end Row
namespace Row
open PySem PySem.Spec PyProof.Rows L2 Ev
variable {N K : Nat} {h : AH}
theorem bls_map {β : Type} (p : β → Bool) : ∀ l : List β, bls (l.map fun x => D.bl (p x)) = some (l.map p)
  | [] => rfl
  | x :: l => by
    rw [List.map_cons, List.map_cons]
    unfold bls
    rw [bls_map p l] <;> rfl
theorem all_map {β : Type} (p : β → Bool) (l : List β) : (l.map p).all id = l.all p := by rw [List.all_map] <;> rfl
theorem any_map {β : Type} (p : β → Bool) (l : List β) : (l.map p).any id = l.any p := by rw [List.any_map] <;> rfl
def tabD (P : List (List Rat)) : D := .tup (P.map rowD)
def setD (P W : List (List Rat)) : D := .tup [tabD P, tabD W]
structure Tb (n m : Nat) (P : List (List Rat)) : Prop where
  len : P.length = m
  row : ∀ r ∈ P, r.length = n ∧ ∀ x ∈ r, Sz 30000 x
structure Vs (n m : Nat) (P W : List (List Rat)) : Prop where
  p : Tb n m P
  w : Tb n m W
  m1 : 1 ≤ m
  m5 : m ≤ 5
  n2 : 2 ≤ n
  n4 : n ≤ 4
structure Ch (n : Nat) (c : List Rat) : Prop where
  len : c.length = n
  sz : ∀ x ∈ c, Sz 30000 x
  pos : ∀ x ∈ c, 0 ≤ x
  sum : sumR c = 1
theorem e_is_row (hK : 3 ≤ K) {l : List Rat} {n : Nat} (hl : l.length = n) (h50 : n ≤ 50) : cF tb N K "is_row" [rowD l, .int n] h = some (.bl true, h) := by
  obtain ⟨j, rfl, hj⟩ := dep hK
  rw [call_at lk_is_row (by rfl)]
  have lc : lcL none (gnF (cF tb N j) g_is_row_1 [some (rowD l), some (.int n), none]) (l.map fr) [] h = some (l.map (fun x => .bl true), h) := by
    refine lc_mapR fr (fun _ => .bl true) (fun x hx => ?_) (by unfold most; omega)
    simp only [gnF, g_is_row_1, dSs, dS_expr, dS_ret, dS_retN, dS_asg, dS_par, dS_aug, dS_ite, dS_for, dS_wh, dS_pass, dS_brk, dS_cnt, dP, dPs, dI, dG, dGs, dGn_eq, dB, cSeq, cRet, cExpr, cAsg, cPar, setAll, cAug, augI, cIte, aVar, aC, tst, aTup, aLst, aBin, aNeg, aCmp, aChain, aNot, aIte, aIx, aO, aSl, dCut, aCall, aCallk, aBi, aMeth, aFin, aEl, aOT, aSeq, aRange1_eq, aEnum, aZip, wipeE, List.foldl_cons, List.foldl_nil, aCons, aStar, aAndV, aOrV, aAnd, aOr, aNotT, gNm, gTp, gNl, gCn, dIx, seqOf, lstOf, zsrc, dBI, dB1, dB2, Rz.fin, truth, dc_eq_int, dc_ne_int, dc_eq_fr, dc_eq_str, dc_ne_str, dc_lt, dc_le, dc_gt, dc_ge, dc_is, dc_isn, dBin, List.getElem?_cons_zero, List.getElem?_cons_succ, List.set_cons_zero, List.set_cons_succ, List.map_cons, List.map_nil, List.length_cons, List.length_nil, List.replicate, List.cons_append, List.nil_append, List.append_nil, Nat.reduceAdd, Nat.reduceSub, Nat.sub_self, Nat.reduceLeDiff, if_true, if_false, Bool.false_eq_true, reduceIte, Int.cast_ofNat_Int, eq_self, decide_true, decide_false, Bool.not_true, Bool.not_false, Bool.and_self, Bool.and_true, Bool.true_and, Bool.and_false, Bool.false_and, Bool.or_false, Bool.false_or, Bool.or_true, Bool.true_or, isi1, isi2, isi3, isi4, isi5, isi6, ok_int, deq_int, view_int, view_fr, view_str, ok_fr, eq_fr, view_tup, view_lst, ty_fr, tyN, List.any_cons, List.any_nil, atI_0, atI_1, atI_2, atI_3, atI_n, most, runB_rt, runB_nx, fin_same, e_is_ratio (N := N) (h := h) (K := j) hj]
  have e1 := e_tuple_of (N := N) (h := h) (K := j) (by omega) (l := l.map fr) (n := n)
  rw [List.length_map, hl] at e1
  have e2 := bls_map (fun _ => true) l
  try simp only [b_is_row, dSs, dS_expr, dS_ret, dS_retN, dS_asg, dS_par, dS_aug, dS_ite, dS_for, dS_wh, dS_pass, dS_brk, dS_cnt, dP, dPs, dI, dG, dGs, dGn_eq, dB, cSeq, cRet, cExpr, cAsg, cPar, setAll, cAug, augI, cIte, aVar, aC, tst, aTup, aLst, aBin, aNeg, aCmp, aChain, aNot, aIte, aIx, aO, aSl, dCut, aCall, aCallk, aBi, aMeth, aFin, aEl, aOT, aSeq, aRange1_eq, aEnum, aZip, wipeE, List.foldl_cons, List.foldl_nil, aCons, aStar, aAndV, aOrV, aAnd, aOr, aNotT, gNm, gTp, gNl, gCn, dIx, seqOf, lstOf, zsrc, dBI, dB1, dB2, Rz.fin, truth, dc_eq_int, dc_ne_int, dc_eq_fr, dc_eq_str, dc_ne_str, dc_lt, dc_le, dc_gt, dc_ge, dc_is, dc_isn, dBin, List.getElem?_cons_zero, List.getElem?_cons_succ, List.set_cons_zero, List.set_cons_succ, List.map_cons, List.map_nil, List.length_cons, List.length_nil, List.replicate, List.cons_append, List.nil_append, List.append_nil, Nat.reduceAdd, Nat.reduceSub, Nat.sub_self, Nat.reduceLeDiff, if_true, if_false, Bool.false_eq_true, reduceIte, Int.cast_ofNat_Int, eq_self, decide_true, decide_false, Bool.not_true, Bool.not_false, Bool.and_self, Bool.and_true, Bool.true_and, Bool.and_false, Bool.false_and, Bool.or_false, Bool.false_or, Bool.or_true, Bool.true_or, isi1, isi2, isi3, isi4, isi5, isi6, ok_int, deq_int, view_int, view_fr, view_str, ok_fr, eq_fr, view_tup, view_lst, ty_fr, tyN, List.any_cons, List.any_nil, atI_0, atI_1, atI_2, atI_3, atI_n, most, runB_rt, runB_nx, fin_same, gs_is_row_1, rowD] at lc
  try simp only [b_is_row, dSs, dS_expr, dS_ret, dS_retN, dS_asg, dS_par, dS_aug, dS_ite, dS_for, dS_wh, dS_pass, dS_brk, dS_cnt, dP, dPs, dI, dG, dGs, dGn_eq, dB, cSeq, cRet, cExpr, cAsg, cPar, setAll, cAug, augI, cIte, aVar, aC, tst, aTup, aLst, aBin, aNeg, aCmp, aChain, aNot, aIte, aIx, aO, aSl, dCut, aCall, aCallk, aBi, aMeth, aFin, aEl, aOT, aSeq, aRange1_eq, aEnum, aZip, wipeE, List.foldl_cons, List.foldl_nil, aCons, aStar, aAndV, aOrV, aAnd, aOr, aNotT, gNm, gTp, gNl, gCn, dIx, seqOf, lstOf, zsrc, dBI, dB1, dB2, Rz.fin, truth, dc_eq_int, dc_ne_int, dc_eq_fr, dc_eq_str, dc_ne_str, dc_lt, dc_le, dc_gt, dc_ge, dc_is, dc_isn, dBin, List.getElem?_cons_zero, List.getElem?_cons_succ, List.set_cons_zero, List.set_cons_succ, List.map_cons, List.map_nil, List.length_cons, List.length_nil, List.replicate, List.cons_append, List.nil_append, List.append_nil, Nat.reduceAdd, Nat.reduceSub, Nat.sub_self, Nat.reduceLeDiff, if_true, if_false, Bool.false_eq_true, reduceIte, Int.cast_ofNat_Int, eq_self, decide_true, decide_false, Bool.not_true, Bool.not_false, Bool.and_self, Bool.and_true, Bool.true_and, Bool.and_false, Bool.false_and, Bool.or_false, Bool.false_or, Bool.or_true, Bool.true_or, isi1, isi2, isi3, isi4, isi5, isi6, ok_int, deq_int, view_int, view_fr, view_str, ok_fr, eq_fr, view_tup, view_lst, ty_fr, tyN, List.any_cons, List.any_nil, atI_0, atI_1, atI_2, atI_3, atI_n, most, runB_rt, runB_nx, fin_same, gs_is_row_1, rowD]
  simp only [e1, dSs, dS_expr, dS_ret, dS_retN, dS_asg, dS_par, dS_aug, dS_ite, dS_for, dS_wh, dS_pass, dS_brk, dS_cnt, dP, dPs, dI, dG, dGs, dGn_eq, dB, cSeq, cRet, cExpr, cAsg, cPar, setAll, cAug, augI, cIte, aVar, aC, tst, aTup, aLst, aBin, aNeg, aCmp, aChain, aNot, aIte, aIx, aO, aSl, dCut, aCall, aCallk, aBi, aMeth, aFin, aEl, aOT, aSeq, aRange1_eq, aEnum, aZip, wipeE, List.foldl_cons, List.foldl_nil, aCons, aStar, aAndV, aOrV, aAnd, aOr, aNotT, gNm, gTp, gNl, gCn, dIx, seqOf, lstOf, zsrc, dBI, dB1, dB2, Rz.fin, truth, dc_eq_int, dc_ne_int, dc_eq_fr, dc_eq_str, dc_ne_str, dc_lt, dc_le, dc_gt, dc_ge, dc_is, dc_isn, dBin, List.getElem?_cons_zero, List.getElem?_cons_succ, List.set_cons_zero, List.set_cons_succ, List.map_cons, List.map_nil, List.length_cons, List.length_nil, List.replicate, List.cons_append, List.nil_append, List.append_nil, Nat.reduceAdd, Nat.reduceSub, Nat.sub_self, Nat.reduceLeDiff, if_true, if_false, Bool.false_eq_true, reduceIte, Int.cast_ofNat_Int, eq_self, decide_true, decide_false, Bool.not_true, Bool.not_false, Bool.and_self, Bool.and_true, Bool.true_and, Bool.and_false, Bool.false_and, Bool.or_false, Bool.false_or, Bool.or_true, Bool.true_or, isi1, isi2, isi3, isi4, isi5, isi6, ok_int, deq_int, view_int, view_fr, view_str, ok_fr, eq_fr, view_tup, view_lst, ty_fr, tyN, List.any_cons, List.any_nil, atI_0, atI_1, atI_2, atI_3, atI_n, most, runB_rt, runB_nx, fin_same, gs_is_row_1, lc, e2, all_map]
  simp [runB_rt, fin_same]
theorem e_are_rows (hK : 4 ≤ K) {P : List (List Rat)} {n m : Nat} (v : Tb n m P) (hm : m ≤ 50) (hn : n ≤ 50) : cF tb N K "are_rows" [tabD P, .int m, .int n] h = some (.bl true, h) := by
  obtain ⟨j, rfl, hj⟩ := dep hK
  rw [call_at lk_are_rows (by rfl)]
  have lc : lcL none (gnF (cF tb N j) g_are_rows_1 [some (tabD P), some (.int m), some (.int n), none]) (P.map rowD) [] h = some (P.map (fun x => .bl true), h) := by
    refine lc_mapR rowD (fun _ => .bl true) (fun x hx => ?_) (by rw [v.len]; unfold most; omega)
    simp only [gnF, g_are_rows_1, dSs, dS_expr, dS_ret, dS_retN, dS_asg, dS_par, dS_aug, dS_ite, dS_for, dS_wh, dS_pass, dS_brk, dS_cnt, dP, dPs, dI, dG, dGs, dGn_eq, dB, cSeq, cRet, cExpr, cAsg, cPar, setAll, cAug, augI, cIte, aVar, aC, tst, aTup, aLst, aBin, aNeg, aCmp, aChain, aNot, aIte, aIx, aO, aSl, dCut, aCall, aCallk, aBi, aMeth, aFin, aEl, aOT, aSeq, aRange1_eq, aEnum, aZip, wipeE, List.foldl_cons, List.foldl_nil, aCons, aStar, aAndV, aOrV, aAnd, aOr, aNotT, gNm, gTp, gNl, gCn, dIx, seqOf, lstOf, zsrc, dBI, dB1, dB2, Rz.fin, truth, dc_eq_int, dc_ne_int, dc_eq_fr, dc_eq_str, dc_ne_str, dc_lt, dc_le, dc_gt, dc_ge, dc_is, dc_isn, dBin, List.getElem?_cons_zero, List.getElem?_cons_succ, List.set_cons_zero, List.set_cons_succ, List.map_cons, List.map_nil, List.length_cons, List.length_nil, List.replicate, List.cons_append, List.nil_append, List.append_nil, Nat.reduceAdd, Nat.reduceSub, Nat.sub_self, Nat.reduceLeDiff, if_true, if_false, Bool.false_eq_true, reduceIte, Int.cast_ofNat_Int, eq_self, decide_true, decide_false, Bool.not_true, Bool.not_false, Bool.and_self, Bool.and_true, Bool.true_and, Bool.and_false, Bool.false_and, Bool.or_false, Bool.false_or, Bool.or_true, Bool.true_or, isi1, isi2, isi3, isi4, isi5, isi6, ok_int, deq_int, view_int, view_fr, view_str, ok_fr, eq_fr, view_tup, view_lst, ty_fr, tyN, List.any_cons, List.any_nil, atI_0, atI_1, atI_2, atI_3, atI_n, most, runB_rt, runB_nx, fin_same, e_is_row (N := N) (h := h) (K := j) hj (v.row x hx).1 hn]
  have e1 := e_tuple_of (N := N) (h := h) (K := j) (by omega) (l := P.map rowD) (n := m)
  rw [List.length_map, v.len] at e1
  have e2 := bls_map (fun _ => true) P
  try simp only [b_are_rows, dSs, dS_expr, dS_ret, dS_retN, dS_asg, dS_par, dS_aug, dS_ite, dS_for, dS_wh, dS_pass, dS_brk, dS_cnt, dP, dPs, dI, dG, dGs, dGn_eq, dB, cSeq, cRet, cExpr, cAsg, cPar, setAll, cAug, augI, cIte, aVar, aC, tst, aTup, aLst, aBin, aNeg, aCmp, aChain, aNot, aIte, aIx, aO, aSl, dCut, aCall, aCallk, aBi, aMeth, aFin, aEl, aOT, aSeq, aRange1_eq, aEnum, aZip, wipeE, List.foldl_cons, List.foldl_nil, aCons, aStar, aAndV, aOrV, aAnd, aOr, aNotT, gNm, gTp, gNl, gCn, dIx, seqOf, lstOf, zsrc, dBI, dB1, dB2, Rz.fin, truth, dc_eq_int, dc_ne_int, dc_eq_fr, dc_eq_str, dc_ne_str, dc_lt, dc_le, dc_gt, dc_ge, dc_is, dc_isn, dBin, List.getElem?_cons_zero, List.getElem?_cons_succ, List.set_cons_zero, List.set_cons_succ, List.map_cons, List.map_nil, List.length_cons, List.length_nil, List.replicate, List.cons_append, List.nil_append, List.append_nil, Nat.reduceAdd, Nat.reduceSub, Nat.sub_self, Nat.reduceLeDiff, if_true, if_false, Bool.false_eq_true, reduceIte, Int.cast_ofNat_Int, eq_self, decide_true, decide_false, Bool.not_true, Bool.not_false, Bool.and_self, Bool.and_true, Bool.true_and, Bool.and_false, Bool.false_and, Bool.or_false, Bool.false_or, Bool.or_true, Bool.true_or, isi1, isi2, isi3, isi4, isi5, isi6, ok_int, deq_int, view_int, view_fr, view_str, ok_fr, eq_fr, view_tup, view_lst, ty_fr, tyN, List.any_cons, List.any_nil, atI_0, atI_1, atI_2, atI_3, atI_n, most, runB_rt, runB_nx, fin_same, gs_are_rows_1, tabD] at lc
  try simp only [b_are_rows, dSs, dS_expr, dS_ret, dS_retN, dS_asg, dS_par, dS_aug, dS_ite, dS_for, dS_wh, dS_pass, dS_brk, dS_cnt, dP, dPs, dI, dG, dGs, dGn_eq, dB, cSeq, cRet, cExpr, cAsg, cPar, setAll, cAug, augI, cIte, aVar, aC, tst, aTup, aLst, aBin, aNeg, aCmp, aChain, aNot, aIte, aIx, aO, aSl, dCut, aCall, aCallk, aBi, aMeth, aFin, aEl, aOT, aSeq, aRange1_eq, aEnum, aZip, wipeE, List.foldl_cons, List.foldl_nil, aCons, aStar, aAndV, aOrV, aAnd, aOr, aNotT, gNm, gTp, gNl, gCn, dIx, seqOf, lstOf, zsrc, dBI, dB1, dB2, Rz.fin, truth, dc_eq_int, dc_ne_int, dc_eq_fr, dc_eq_str, dc_ne_str, dc_lt, dc_le, dc_gt, dc_ge, dc_is, dc_isn, dBin, List.getElem?_cons_zero, List.getElem?_cons_succ, List.set_cons_zero, List.set_cons_succ, List.map_cons, List.map_nil, List.length_cons, List.length_nil, List.replicate, List.cons_append, List.nil_append, List.append_nil, Nat.reduceAdd, Nat.reduceSub, Nat.sub_self, Nat.reduceLeDiff, if_true, if_false, Bool.false_eq_true, reduceIte, Int.cast_ofNat_Int, eq_self, decide_true, decide_false, Bool.not_true, Bool.not_false, Bool.and_self, Bool.and_true, Bool.true_and, Bool.and_false, Bool.false_and, Bool.or_false, Bool.false_or, Bool.or_true, Bool.true_or, isi1, isi2, isi3, isi4, isi5, isi6, ok_int, deq_int, view_int, view_fr, view_str, ok_fr, eq_fr, view_tup, view_lst, ty_fr, tyN, List.any_cons, List.any_nil, atI_0, atI_1, atI_2, atI_3, atI_n, most, runB_rt, runB_nx, fin_same, gs_are_rows_1, tabD]
  simp only [e1, dSs, dS_expr, dS_ret, dS_retN, dS_asg, dS_par, dS_aug, dS_ite, dS_for, dS_wh, dS_pass, dS_brk, dS_cnt, dP, dPs, dI, dG, dGs, dGn_eq, dB, cSeq, cRet, cExpr, cAsg, cPar, setAll, cAug, augI, cIte, aVar, aC, tst, aTup, aLst, aBin, aNeg, aCmp, aChain, aNot, aIte, aIx, aO, aSl, dCut, aCall, aCallk, aBi, aMeth, aFin, aEl, aOT, aSeq, aRange1_eq, aEnum, aZip, wipeE, List.foldl_cons, List.foldl_nil, aCons, aStar, aAndV, aOrV, aAnd, aOr, aNotT, gNm, gTp, gNl, gCn, dIx, seqOf, lstOf, zsrc, dBI, dB1, dB2, Rz.fin, truth, dc_eq_int, dc_ne_int, dc_eq_fr, dc_eq_str, dc_ne_str, dc_lt, dc_le, dc_gt, dc_ge, dc_is, dc_isn, dBin, List.getElem?_cons_zero, List.getElem?_cons_succ, List.set_cons_zero, List.set_cons_succ, List.map_cons, List.map_nil, List.length_cons, List.length_nil, List.replicate, List.cons_append, List.nil_append, List.append_nil, Nat.reduceAdd, Nat.reduceSub, Nat.sub_self, Nat.reduceLeDiff, if_true, if_false, Bool.false_eq_true, reduceIte, Int.cast_ofNat_Int, eq_self, decide_true, decide_false, Bool.not_true, Bool.not_false, Bool.and_self, Bool.and_true, Bool.true_and, Bool.and_false, Bool.false_and, Bool.or_false, Bool.false_or, Bool.or_true, Bool.true_or, isi1, isi2, isi3, isi4, isi5, isi6, ok_int, deq_int, view_int, view_fr, view_str, ok_fr, eq_fr, view_tup, view_lst, ty_fr, tyN, List.any_cons, List.any_nil, atI_0, atI_1, atI_2, atI_3, atI_n, most, runB_rt, runB_nx, fin_same, gs_are_rows_1, lc, e2, all_map]
  simp [runB_rt, fin_same]
theorem tb_cons {n m : Nat} {P : List (List Rat)} (v : Tb n m P) (h1 : 1 ≤ m) : ∃ p P', P = p :: P' ∧ p.length = n := by
  cases P with
  | nil => have := v.len; simp at this; omega
  | cons p P' => exact ⟨p, P', rfl, (v.row p List.mem_cons_self).1⟩
theorem e_is_setting (hK : 5 ≤ K) {P W : List (List Rat)} {n m : Nat} (v : Vs n m P W) : cF tb N K "is_setting_by" [setD P W] h = some (.bl true, h) := by
  obtain ⟨j, rfl, hj⟩ := dep hK
  rw [call_at lk_is_setting_by (by rfl)]
  obtain ⟨p, P', e0, l0⟩ := tb_cons v.p v.m1
  have hm5 := v.m5
  have hm1 := v.m1
  have hn2 := v.n2
  have hn4 := v.n4
  have lc : lcL none (gnF (cF tb N j) g_is_setting_by_1 [some (setD P W), some (rowD p), none]) [tabD P, tabD W] [] h = some ([P, W].map (fun x => .bl true), h) := by
    refine lc_mapR tabD (fun _ => .bl true) (l := [P, W]) (fun x hx => ?_) (by unfold most; simp)
    have v1 : Tb n m x := by
      simp only [List.mem_cons, List.not_mem_nil, or_false] at hx
      rcases hx with rfl | rfl
      · exact v.p
      · exact v.w
    have e3 := e_are_rows (N := N) (h := h) (K := j) hj v1 (by omega) (by omega)
    have l1 : (P.map rowD).length = m := by rw [List.length_map, v.p.len]
    have l2 : (p.map fr).length = n := by rw [List.length_map, l0]
    simp only [gnF, g_is_setting_by_1, dSs, dS_expr, dS_ret, dS_retN, dS_asg, dS_par, dS_aug, dS_ite, dS_for, dS_wh, dS_pass, dS_brk, dS_cnt, dP, dPs, dI, dG, dGs, dGn_eq, dB, cSeq, cRet, cExpr, cAsg, cPar, setAll, cAug, augI, cIte, aVar, aC, tst, aTup, aLst, aBin, aNeg, aCmp, aChain, aNot, aIte, aIx, aO, aSl, dCut, aCall, aCallk, aBi, aMeth, aFin, aEl, aOT, aSeq, aRange1_eq, aEnum, aZip, wipeE, List.foldl_cons, List.foldl_nil, aCons, aStar, aAndV, aOrV, aAnd, aOr, aNotT, gNm, gTp, gNl, gCn, dIx, seqOf, lstOf, zsrc, dBI, dB1, dB2, Rz.fin, truth, dc_eq_int, dc_ne_int, dc_eq_fr, dc_eq_str, dc_ne_str, dc_lt, dc_le, dc_gt, dc_ge, dc_is, dc_isn, dBin, List.getElem?_cons_zero, List.getElem?_cons_succ, List.set_cons_zero, List.set_cons_succ, List.map_cons, List.map_nil, List.length_cons, List.length_nil, List.replicate, List.cons_append, List.nil_append, List.append_nil, Nat.reduceAdd, Nat.reduceSub, Nat.sub_self, Nat.reduceLeDiff, if_true, if_false, Bool.false_eq_true, reduceIte, Int.cast_ofNat_Int, eq_self, decide_true, decide_false, Bool.not_true, Bool.not_false, Bool.and_self, Bool.and_true, Bool.true_and, Bool.and_false, Bool.false_and, Bool.or_false, Bool.false_or, Bool.or_true, Bool.true_or, isi1, isi2, isi3, isi4, isi5, isi6, ok_int, deq_int, view_int, view_fr, view_str, ok_fr, eq_fr, view_tup, view_lst, ty_fr, tyN, List.any_cons, List.any_nil, atI_0, atI_1, atI_2, atI_3, atI_n, most, runB_rt, runB_nx, fin_same, setD]
    try simp only [tabD, rowD] at e3
    try simp only [tabD, rowD]
    simp only [dSs, dS_expr, dS_ret, dS_retN, dS_asg, dS_par, dS_aug, dS_ite, dS_for, dS_wh, dS_pass, dS_brk, dS_cnt, dP, dPs, dI, dG, dGs, dGn_eq, dB, cSeq, cRet, cExpr, cAsg, cPar, setAll, cAug, augI, cIte, aVar, aC, tst, aTup, aLst, aBin, aNeg, aCmp, aChain, aNot, aIte, aIx, aO, aSl, dCut, aCall, aCallk, aBi, aMeth, aFin, aEl, aOT, aSeq, aRange1_eq, aEnum, aZip, wipeE, List.foldl_cons, List.foldl_nil, aCons, aStar, aAndV, aOrV, aAnd, aOr, aNotT, gNm, gTp, gNl, gCn, dIx, seqOf, lstOf, zsrc, dBI, dB1, dB2, Rz.fin, truth, dc_eq_int, dc_ne_int, dc_eq_fr, dc_eq_str, dc_ne_str, dc_lt, dc_le, dc_gt, dc_ge, dc_is, dc_isn, dBin, List.getElem?_cons_zero, List.getElem?_cons_succ, List.set_cons_zero, List.set_cons_succ, List.map_cons, List.map_nil, List.length_cons, List.length_nil, List.replicate, List.cons_append, List.nil_append, List.append_nil, Nat.reduceAdd, Nat.reduceSub, Nat.sub_self, Nat.reduceLeDiff, if_true, if_false, Bool.false_eq_true, reduceIte, Int.cast_ofNat_Int, eq_self, decide_true, decide_false, Bool.not_true, Bool.not_false, Bool.and_self, Bool.and_true, Bool.true_and, Bool.and_false, Bool.false_and, Bool.or_false, Bool.false_or, Bool.or_true, Bool.true_or, isi1, isi2, isi3, isi4, isi5, isi6, ok_int, deq_int, view_int, view_fr, view_str, ok_fr, eq_fr, view_tup, view_lst, ty_fr, tyN, List.any_cons, List.any_nil, atI_0, atI_1, atI_2, atI_3, atI_n, most, runB_rt, runB_nx, fin_same, rowD, List.length_map, v.p.len, l0, e3]
  have e1 := e_tuple_of (N := N) (h := h) (K := j) (by omega) (l := [tabD P, tabD W]) (n := 2)
  have c1 : (1 : Int) ≤ m := by omega
  have c2 : (m : Int) ≤ 5 := by omega
  have c3 : (2 : Int) ≤ n := by omega
  have c4 : (n : Int) ≤ 4 := by omega
  have l1 : P'.length + 1 = m := by rw [← v.p.len, e0, List.length_cons]
  rw [e0] at lc e1 ⊢
  try simp only [b_is_setting_by, dSs, dS_expr, dS_ret, dS_retN, dS_asg, dS_par, dS_aug, dS_ite, dS_for, dS_wh, dS_pass, dS_brk, dS_cnt, dP, dPs, dI, dG, dGs, dGn_eq, dB, cSeq, cRet, cExpr, cAsg, cPar, setAll, cAug, augI, cIte, aVar, aC, tst, aTup, aLst, aBin, aNeg, aCmp, aChain, aNot, aIte, aIx, aO, aSl, dCut, aCall, aCallk, aBi, aMeth, aFin, aEl, aOT, aSeq, aRange1_eq, aEnum, aZip, wipeE, List.foldl_cons, List.foldl_nil, aCons, aStar, aAndV, aOrV, aAnd, aOr, aNotT, gNm, gTp, gNl, gCn, dIx, seqOf, lstOf, zsrc, dBI, dB1, dB2, Rz.fin, truth, dc_eq_int, dc_ne_int, dc_eq_fr, dc_eq_str, dc_ne_str, dc_lt, dc_le, dc_gt, dc_ge, dc_is, dc_isn, dBin, List.getElem?_cons_zero, List.getElem?_cons_succ, List.set_cons_zero, List.set_cons_succ, List.map_cons, List.map_nil, List.length_cons, List.length_nil, List.replicate, List.cons_append, List.nil_append, List.append_nil, Nat.reduceAdd, Nat.reduceSub, Nat.sub_self, Nat.reduceLeDiff, if_true, if_false, Bool.false_eq_true, reduceIte, Int.cast_ofNat_Int, eq_self, decide_true, decide_false, Bool.not_true, Bool.not_false, Bool.and_self, Bool.and_true, Bool.true_and, Bool.and_false, Bool.false_and, Bool.or_false, Bool.false_or, Bool.or_true, Bool.true_or, isi1, isi2, isi3, isi4, isi5, isi6, ok_int, deq_int, view_int, view_fr, view_str, ok_fr, eq_fr, view_tup, view_lst, ty_fr, tyN, List.any_cons, List.any_nil, atI_0, atI_1, atI_2, atI_3, atI_n, most, runB_rt, runB_nx, fin_same, gs_is_setting_by_1, setD, tabD, rowD, List.length_map, l0, l1] at lc
  try simp only [b_is_setting_by, dSs, dS_expr, dS_ret, dS_retN, dS_asg, dS_par, dS_aug, dS_ite, dS_for, dS_wh, dS_pass, dS_brk, dS_cnt, dP, dPs, dI, dG, dGs, dGn_eq, dB, cSeq, cRet, cExpr, cAsg, cPar, setAll, cAug, augI, cIte, aVar, aC, tst, aTup, aLst, aBin, aNeg, aCmp, aChain, aNot, aIte, aIx, aO, aSl, dCut, aCall, aCallk, aBi, aMeth, aFin, aEl, aOT, aSeq, aRange1_eq, aEnum, aZip, wipeE, List.foldl_cons, List.foldl_nil, aCons, aStar, aAndV, aOrV, aAnd, aOr, aNotT, gNm, gTp, gNl, gCn, dIx, seqOf, lstOf, zsrc, dBI, dB1, dB2, Rz.fin, truth, dc_eq_int, dc_ne_int, dc_eq_fr, dc_eq_str, dc_ne_str, dc_lt, dc_le, dc_gt, dc_ge, dc_is, dc_isn, dBin, List.getElem?_cons_zero, List.getElem?_cons_succ, List.set_cons_zero, List.set_cons_succ, List.map_cons, List.map_nil, List.length_cons, List.length_nil, List.replicate, List.cons_append, List.nil_append, List.append_nil, Nat.reduceAdd, Nat.reduceSub, Nat.sub_self, Nat.reduceLeDiff, if_true, if_false, Bool.false_eq_true, reduceIte, Int.cast_ofNat_Int, eq_self, decide_true, decide_false, Bool.not_true, Bool.not_false, Bool.and_self, Bool.and_true, Bool.true_and, Bool.and_false, Bool.false_and, Bool.or_false, Bool.false_or, Bool.or_true, Bool.true_or, isi1, isi2, isi3, isi4, isi5, isi6, ok_int, deq_int, view_int, view_fr, view_str, ok_fr, eq_fr, view_tup, view_lst, ty_fr, tyN, List.any_cons, List.any_nil, atI_0, atI_1, atI_2, atI_3, atI_n, most, runB_rt, runB_nx, fin_same, gs_is_setting_by_1, setD, tabD, rowD, List.length_map, l0, l1] at e1
  try simp only [b_is_setting_by, dSs, dS_expr, dS_ret, dS_retN, dS_asg, dS_par, dS_aug, dS_ite, dS_for, dS_wh, dS_pass, dS_brk, dS_cnt, dP, dPs, dI, dG, dGs, dGn_eq, dB, cSeq, cRet, cExpr, cAsg, cPar, setAll, cAug, augI, cIte, aVar, aC, tst, aTup, aLst, aBin, aNeg, aCmp, aChain, aNot, aIte, aIx, aO, aSl, dCut, aCall, aCallk, aBi, aMeth, aFin, aEl, aOT, aSeq, aRange1_eq, aEnum, aZip, wipeE, List.foldl_cons, List.foldl_nil, aCons, aStar, aAndV, aOrV, aAnd, aOr, aNotT, gNm, gTp, gNl, gCn, dIx, seqOf, lstOf, zsrc, dBI, dB1, dB2, Rz.fin, truth, dc_eq_int, dc_ne_int, dc_eq_fr, dc_eq_str, dc_ne_str, dc_lt, dc_le, dc_gt, dc_ge, dc_is, dc_isn, dBin, List.getElem?_cons_zero, List.getElem?_cons_succ, List.set_cons_zero, List.set_cons_succ, List.map_cons, List.map_nil, List.length_cons, List.length_nil, List.replicate, List.cons_append, List.nil_append, List.append_nil, Nat.reduceAdd, Nat.reduceSub, Nat.sub_self, Nat.reduceLeDiff, if_true, if_false, Bool.false_eq_true, reduceIte, Int.cast_ofNat_Int, eq_self, decide_true, decide_false, Bool.not_true, Bool.not_false, Bool.and_self, Bool.and_true, Bool.true_and, Bool.and_false, Bool.false_and, Bool.or_false, Bool.false_or, Bool.or_true, Bool.true_or, isi1, isi2, isi3, isi4, isi5, isi6, ok_int, deq_int, view_int, view_fr, view_str, ok_fr, eq_fr, view_tup, view_lst, ty_fr, tyN, List.any_cons, List.any_nil, atI_0, atI_1, atI_2, atI_3, atI_n, most, runB_rt, runB_nx, fin_same, gs_is_setting_by_1, setD, tabD, rowD, List.length_map, l0, l1]
  simp only [e1, dSs, dS_expr, dS_ret, dS_retN, dS_asg, dS_par, dS_aug, dS_ite, dS_for, dS_wh, dS_pass, dS_brk, dS_cnt, dP, dPs, dI, dG, dGs, dGn_eq, dB, cSeq, cRet, cExpr, cAsg, cPar, setAll, cAug, augI, cIte, aVar, aC, tst, aTup, aLst, aBin, aNeg, aCmp, aChain, aNot, aIte, aIx, aO, aSl, dCut, aCall, aCallk, aBi, aMeth, aFin, aEl, aOT, aSeq, aRange1_eq, aEnum, aZip, wipeE, List.foldl_cons, List.foldl_nil, aCons, aStar, aAndV, aOrV, aAnd, aOr, aNotT, gNm, gTp, gNl, gCn, dIx, seqOf, lstOf, zsrc, dBI, dB1, dB2, Rz.fin, truth, dc_eq_int, dc_ne_int, dc_eq_fr, dc_eq_str, dc_ne_str, dc_lt, dc_le, dc_gt, dc_ge, dc_is, dc_isn, dBin, List.getElem?_cons_zero, List.getElem?_cons_succ, List.set_cons_zero, List.set_cons_succ, List.map_cons, List.map_nil, List.length_cons, List.length_nil, List.replicate, List.cons_append, List.nil_append, List.append_nil, Nat.reduceAdd, Nat.reduceSub, Nat.sub_self, Nat.reduceLeDiff, if_true, if_false, Bool.false_eq_true, reduceIte, Int.cast_ofNat_Int, eq_self, decide_true, decide_false, Bool.not_true, Bool.not_false, Bool.and_self, Bool.and_true, Bool.true_and, Bool.and_false, Bool.false_and, Bool.or_false, Bool.false_or, Bool.or_true, Bool.true_or, isi1, isi2, isi3, isi4, isi5, isi6, ok_int, deq_int, view_int, view_fr, view_str, ok_fr, eq_fr, view_tup, view_lst, ty_fr, tyN, List.any_cons, List.any_nil, atI_0, atI_1, atI_2, atI_3, atI_n, most, runB_rt, runB_nx, fin_same, gs_is_setting_by_1, List.length_map, l0, l1, c1, c2, c3, c4, lc, bls, Option.map_some, List.all_cons, List.all_nil, id]
end Row
namespace Row
open PySem PySem.Spec PyProof.Rows L2 Ev
variable {N K : Nat} {h : AH} {P W : List (List Rat)} {n m : Nat} {c : List Rat}
theorem e_many_states (hK : 1 ≤ K) (v : Vs n m P W) : cF tb N K "many_states" [setD P W] h = some (.int n, h) := by
  obtain ⟨j, rfl, hj⟩ := dep hK
  rw [call_at lk_many_states (by rfl)]
  obtain ⟨p, P', rfl, l0⟩ := tb_cons v.p v.m1
  simp only [b_many_states, dSs, dS_expr, dS_ret, dS_retN, dS_asg, dS_par, dS_aug, dS_ite, dS_for, dS_wh, dS_pass, dS_brk, dS_cnt, dP, dPs, dI, dG, dGs, dGn_eq, dB, cSeq, cRet, cExpr, cAsg, cPar, setAll, cAug, augI, cIte, aVar, aC, tst, aTup, aLst, aBin, aNeg, aCmp, aChain, aNot, aIte, aIx, aO, aSl, dCut, aCall, aCallk, aBi, aMeth, aFin, aEl, aOT, aSeq, aRange1_eq, aEnum, aZip, wipeE, List.foldl_cons, List.foldl_nil, aCons, aStar, aAndV, aOrV, aAnd, aOr, aNotT, gNm, gTp, gNl, gCn, dIx, seqOf, lstOf, zsrc, dBI, dB1, dB2, Rz.fin, truth, dc_eq_int, dc_ne_int, dc_eq_fr, dc_eq_str, dc_ne_str, dc_lt, dc_le, dc_gt, dc_ge, dc_is, dc_isn, dBin, List.getElem?_cons_zero, List.getElem?_cons_succ, List.set_cons_zero, List.set_cons_succ, List.map_cons, List.map_nil, List.length_cons, List.length_nil, List.replicate, List.cons_append, List.nil_append, List.append_nil, Nat.reduceAdd, Nat.reduceSub, Nat.sub_self, Nat.reduceLeDiff, if_true, if_false, Bool.false_eq_true, reduceIte, Int.cast_ofNat_Int, eq_self, decide_true, decide_false, Bool.not_true, Bool.not_false, Bool.and_self, Bool.and_true, Bool.true_and, Bool.and_false, Bool.false_and, Bool.or_false, Bool.false_or, Bool.or_true, Bool.true_or, isi1, isi2, isi3, isi4, isi5, isi6, ok_int, deq_int, view_int, view_fr, view_str, ok_fr, eq_fr, view_tup, view_lst, ty_fr, tyN, List.any_cons, List.any_nil, atI_0, atI_1, atI_2, atI_3, atI_n, most, runB_rt, runB_nx, fin_same, setD, tabD, rowD, List.length_map, l0]
theorem e_many_actions (hK : 1 ≤ K) (v : Vs n m P W) : cF tb N K "many_actions" [setD P W] h = some (.int m, h) := by
  obtain ⟨j, rfl, hj⟩ := dep hK
  rw [call_at lk_many_actions (by rfl)]
  simp only [b_many_actions, dSs, dS_expr, dS_ret, dS_retN, dS_asg, dS_par, dS_aug, dS_ite, dS_for, dS_wh, dS_pass, dS_brk, dS_cnt, dP, dPs, dI, dG, dGs, dGn_eq, dB, cSeq, cRet, cExpr, cAsg, cPar, setAll, cAug, augI, cIte, aVar, aC, tst, aTup, aLst, aBin, aNeg, aCmp, aChain, aNot, aIte, aIx, aO, aSl, dCut, aCall, aCallk, aBi, aMeth, aFin, aEl, aOT, aSeq, aRange1_eq, aEnum, aZip, wipeE, List.foldl_cons, List.foldl_nil, aCons, aStar, aAndV, aOrV, aAnd, aOr, aNotT, gNm, gTp, gNl, gCn, dIx, seqOf, lstOf, zsrc, dBI, dB1, dB2, Rz.fin, truth, dc_eq_int, dc_ne_int, dc_eq_fr, dc_eq_str, dc_ne_str, dc_lt, dc_le, dc_gt, dc_ge, dc_is, dc_isn, dBin, List.getElem?_cons_zero, List.getElem?_cons_succ, List.set_cons_zero, List.set_cons_succ, List.map_cons, List.map_nil, List.length_cons, List.length_nil, List.replicate, List.cons_append, List.nil_append, List.append_nil, Nat.reduceAdd, Nat.reduceSub, Nat.sub_self, Nat.reduceLeDiff, if_true, if_false, Bool.false_eq_true, reduceIte, Int.cast_ofNat_Int, eq_self, decide_true, decide_false, Bool.not_true, Bool.not_false, Bool.and_self, Bool.and_true, Bool.true_and, Bool.and_false, Bool.false_and, Bool.or_false, Bool.false_or, Bool.or_true, Bool.true_or, isi1, isi2, isi3, isi4, isi5, isi6, ok_int, deq_int, view_int, view_fr, view_str, ok_fr, eq_fr, view_tup, view_lst, ty_fr, tyN, List.any_cons, List.any_nil, atI_0, atI_1, atI_2, atI_3, atI_n, most, runB_rt, runB_nx, fin_same, setD, tabD, rowD, List.length_map, v.p.len]
theorem e_is_mix (hK : 4 ≤ K) (v : Ch n c) (hn : n ≤ 4) : cF tb N K "is_mix_of" [rowD c, .int n] h = some (.bl true, h) := by
  obtain ⟨j, rfl, hj⟩ := dep hK
  rw [call_at lk_is_mix_of (by rfl)]
  have lc : lcL none (gnF (cF tb N j) g_is_mix_of_1 [some (rowD c), some (.int n), none]) (c.map fr) [] h = some (c.map (fun x => .bl true), h) := by
    refine lc_mapR fr (fun _ => .bl true) (fun x hx => ?_) (by rw [v.len]; unfold most; omega)
    have : (0 : Int) ≤ x.num := Rat.num_nonneg.2 (v.pos x hx)
    simp only [gnF, g_is_mix_of_1, dSs, dS_expr, dS_ret, dS_retN, dS_asg, dS_par, dS_aug, dS_ite, dS_for, dS_wh, dS_pass, dS_brk, dS_cnt, dP, dPs, dI, dG, dGs, dGn_eq, dB, cSeq, cRet, cExpr, cAsg, cPar, setAll, cAug, augI, cIte, aVar, aC, tst, aTup, aLst, aBin, aNeg, aCmp, aChain, aNot, aIte, aIx, aO, aSl, dCut, aCall, aCallk, aBi, aMeth, aFin, aEl, aOT, aSeq, aRange1_eq, aEnum, aZip, wipeE, List.foldl_cons, List.foldl_nil, aCons, aStar, aAndV, aOrV, aAnd, aOr, aNotT, gNm, gTp, gNl, gCn, dIx, seqOf, lstOf, zsrc, dBI, dB1, dB2, Rz.fin, truth, dc_eq_int, dc_ne_int, dc_eq_fr, dc_eq_str, dc_ne_str, dc_lt, dc_le, dc_gt, dc_ge, dc_is, dc_isn, dBin, List.getElem?_cons_zero, List.getElem?_cons_succ, List.set_cons_zero, List.set_cons_succ, List.map_cons, List.map_nil, List.length_cons, List.length_nil, List.replicate, List.cons_append, List.nil_append, List.append_nil, Nat.reduceAdd, Nat.reduceSub, Nat.sub_self, Nat.reduceLeDiff, if_true, if_false, Bool.false_eq_true, reduceIte, Int.cast_ofNat_Int, eq_self, decide_true, decide_false, Bool.not_true, Bool.not_false, Bool.and_self, Bool.and_true, Bool.true_and, Bool.and_false, Bool.false_and, Bool.or_false, Bool.false_or, Bool.or_true, Bool.true_or, isi1, isi2, isi3, isi4, isi5, isi6, ok_int, deq_int, view_int, view_fr, view_str, ok_fr, eq_fr, view_tup, view_lst, ty_fr, tyN, List.any_cons, List.any_nil, atI_0, atI_1, atI_2, atI_3, atI_n, most, runB_rt, runB_nx, fin_same, fr, this]
  have e1 := e_is_row (N := N) (h := h) (K := j) hj v.len (by omega)
  have e2 := e_total (N := N) (h := h) (K := j) hj (l := c) (fun x hx => (v.sz x hx).mono (by decide)) (by rw [v.len]; omega) (.inr rfl)
  have e3 := bls_map (fun _ => true) c
  rw [v.sum] at e2
  try simp only [b_is_mix_of, dSs, dS_expr, dS_ret, dS_retN, dS_asg, dS_par, dS_aug, dS_ite, dS_for, dS_wh, dS_pass, dS_brk, dS_cnt, dP, dPs, dI, dG, dGs, dGn_eq, dB, cSeq, cRet, cExpr, cAsg, cPar, setAll, cAug, augI, cIte, aVar, aC, tst, aTup, aLst, aBin, aNeg, aCmp, aChain, aNot, aIte, aIx, aO, aSl, dCut, aCall, aCallk, aBi, aMeth, aFin, aEl, aOT, aSeq, aRange1_eq, aEnum, aZip, wipeE, List.foldl_cons, List.foldl_nil, aCons, aStar, aAndV, aOrV, aAnd, aOr, aNotT, gNm, gTp, gNl, gCn, dIx, seqOf, lstOf, zsrc, dBI, dB1, dB2, Rz.fin, truth, dc_eq_int, dc_ne_int, dc_eq_fr, dc_eq_str, dc_ne_str, dc_lt, dc_le, dc_gt, dc_ge, dc_is, dc_isn, dBin, List.getElem?_cons_zero, List.getElem?_cons_succ, List.set_cons_zero, List.set_cons_succ, List.map_cons, List.map_nil, List.length_cons, List.length_nil, List.replicate, List.cons_append, List.nil_append, List.append_nil, Nat.reduceAdd, Nat.reduceSub, Nat.sub_self, Nat.reduceLeDiff, if_true, if_false, Bool.false_eq_true, reduceIte, Int.cast_ofNat_Int, eq_self, decide_true, decide_false, Bool.not_true, Bool.not_false, Bool.and_self, Bool.and_true, Bool.true_and, Bool.and_false, Bool.false_and, Bool.or_false, Bool.false_or, Bool.or_true, Bool.true_or, isi1, isi2, isi3, isi4, isi5, isi6, ok_int, deq_int, view_int, view_fr, view_str, ok_fr, eq_fr, view_tup, view_lst, ty_fr, tyN, List.any_cons, List.any_nil, atI_0, atI_1, atI_2, atI_3, atI_n, most, runB_rt, runB_nx, fin_same, gs_is_mix_of_1, rowD, fr1] at lc
  try simp only [b_is_mix_of, dSs, dS_expr, dS_ret, dS_retN, dS_asg, dS_par, dS_aug, dS_ite, dS_for, dS_wh, dS_pass, dS_brk, dS_cnt, dP, dPs, dI, dG, dGs, dGn_eq, dB, cSeq, cRet, cExpr, cAsg, cPar, setAll, cAug, augI, cIte, aVar, aC, tst, aTup, aLst, aBin, aNeg, aCmp, aChain, aNot, aIte, aIx, aO, aSl, dCut, aCall, aCallk, aBi, aMeth, aFin, aEl, aOT, aSeq, aRange1_eq, aEnum, aZip, wipeE, List.foldl_cons, List.foldl_nil, aCons, aStar, aAndV, aOrV, aAnd, aOr, aNotT, gNm, gTp, gNl, gCn, dIx, seqOf, lstOf, zsrc, dBI, dB1, dB2, Rz.fin, truth, dc_eq_int, dc_ne_int, dc_eq_fr, dc_eq_str, dc_ne_str, dc_lt, dc_le, dc_gt, dc_ge, dc_is, dc_isn, dBin, List.getElem?_cons_zero, List.getElem?_cons_succ, List.set_cons_zero, List.set_cons_succ, List.map_cons, List.map_nil, List.length_cons, List.length_nil, List.replicate, List.cons_append, List.nil_append, List.append_nil, Nat.reduceAdd, Nat.reduceSub, Nat.sub_self, Nat.reduceLeDiff, if_true, if_false, Bool.false_eq_true, reduceIte, Int.cast_ofNat_Int, eq_self, decide_true, decide_false, Bool.not_true, Bool.not_false, Bool.and_self, Bool.and_true, Bool.true_and, Bool.and_false, Bool.false_and, Bool.or_false, Bool.false_or, Bool.or_true, Bool.true_or, isi1, isi2, isi3, isi4, isi5, isi6, ok_int, deq_int, view_int, view_fr, view_str, ok_fr, eq_fr, view_tup, view_lst, ty_fr, tyN, List.any_cons, List.any_nil, atI_0, atI_1, atI_2, atI_3, atI_n, most, runB_rt, runB_nx, fin_same, gs_is_mix_of_1, rowD, fr1] at e1
  try simp only [b_is_mix_of, dSs, dS_expr, dS_ret, dS_retN, dS_asg, dS_par, dS_aug, dS_ite, dS_for, dS_wh, dS_pass, dS_brk, dS_cnt, dP, dPs, dI, dG, dGs, dGn_eq, dB, cSeq, cRet, cExpr, cAsg, cPar, setAll, cAug, augI, cIte, aVar, aC, tst, aTup, aLst, aBin, aNeg, aCmp, aChain, aNot, aIte, aIx, aO, aSl, dCut, aCall, aCallk, aBi, aMeth, aFin, aEl, aOT, aSeq, aRange1_eq, aEnum, aZip, wipeE, List.foldl_cons, List.foldl_nil, aCons, aStar, aAndV, aOrV, aAnd, aOr, aNotT, gNm, gTp, gNl, gCn, dIx, seqOf, lstOf, zsrc, dBI, dB1, dB2, Rz.fin, truth, dc_eq_int, dc_ne_int, dc_eq_fr, dc_eq_str, dc_ne_str, dc_lt, dc_le, dc_gt, dc_ge, dc_is, dc_isn, dBin, List.getElem?_cons_zero, List.getElem?_cons_succ, List.set_cons_zero, List.set_cons_succ, List.map_cons, List.map_nil, List.length_cons, List.length_nil, List.replicate, List.cons_append, List.nil_append, List.append_nil, Nat.reduceAdd, Nat.reduceSub, Nat.sub_self, Nat.reduceLeDiff, if_true, if_false, Bool.false_eq_true, reduceIte, Int.cast_ofNat_Int, eq_self, decide_true, decide_false, Bool.not_true, Bool.not_false, Bool.and_self, Bool.and_true, Bool.true_and, Bool.and_false, Bool.false_and, Bool.or_false, Bool.false_or, Bool.or_true, Bool.true_or, isi1, isi2, isi3, isi4, isi5, isi6, ok_int, deq_int, view_int, view_fr, view_str, ok_fr, eq_fr, view_tup, view_lst, ty_fr, tyN, List.any_cons, List.any_nil, atI_0, atI_1, atI_2, atI_3, atI_n, most, runB_rt, runB_nx, fin_same, gs_is_mix_of_1, rowD, fr1] at e2
  try simp only [b_is_mix_of, dSs, dS_expr, dS_ret, dS_retN, dS_asg, dS_par, dS_aug, dS_ite, dS_for, dS_wh, dS_pass, dS_brk, dS_cnt, dP, dPs, dI, dG, dGs, dGn_eq, dB, cSeq, cRet, cExpr, cAsg, cPar, setAll, cAug, augI, cIte, aVar, aC, tst, aTup, aLst, aBin, aNeg, aCmp, aChain, aNot, aIte, aIx, aO, aSl, dCut, aCall, aCallk, aBi, aMeth, aFin, aEl, aOT, aSeq, aRange1_eq, aEnum, aZip, wipeE, List.foldl_cons, List.foldl_nil, aCons, aStar, aAndV, aOrV, aAnd, aOr, aNotT, gNm, gTp, gNl, gCn, dIx, seqOf, lstOf, zsrc, dBI, dB1, dB2, Rz.fin, truth, dc_eq_int, dc_ne_int, dc_eq_fr, dc_eq_str, dc_ne_str, dc_lt, dc_le, dc_gt, dc_ge, dc_is, dc_isn, dBin, List.getElem?_cons_zero, List.getElem?_cons_succ, List.set_cons_zero, List.set_cons_succ, List.map_cons, List.map_nil, List.length_cons, List.length_nil, List.replicate, List.cons_append, List.nil_append, List.append_nil, Nat.reduceAdd, Nat.reduceSub, Nat.sub_self, Nat.reduceLeDiff, if_true, if_false, Bool.false_eq_true, reduceIte, Int.cast_ofNat_Int, eq_self, decide_true, decide_false, Bool.not_true, Bool.not_false, Bool.and_self, Bool.and_true, Bool.true_and, Bool.and_false, Bool.false_and, Bool.or_false, Bool.false_or, Bool.or_true, Bool.true_or, isi1, isi2, isi3, isi4, isi5, isi6, ok_int, deq_int, view_int, view_fr, view_str, ok_fr, eq_fr, view_tup, view_lst, ty_fr, tyN, List.any_cons, List.any_nil, atI_0, atI_1, atI_2, atI_3, atI_n, most, runB_rt, runB_nx, fin_same, gs_is_mix_of_1, rowD, fr1]
  simp only [e1, e2, dSs, dS_expr, dS_ret, dS_retN, dS_asg, dS_par, dS_aug, dS_ite, dS_for, dS_wh, dS_pass, dS_brk, dS_cnt, dP, dPs, dI, dG, dGs, dGn_eq, dB, cSeq, cRet, cExpr, cAsg, cPar, setAll, cAug, augI, cIte, aVar, aC, tst, aTup, aLst, aBin, aNeg, aCmp, aChain, aNot, aIte, aIx, aO, aSl, dCut, aCall, aCallk, aBi, aMeth, aFin, aEl, aOT, aSeq, aRange1_eq, aEnum, aZip, wipeE, List.foldl_cons, List.foldl_nil, aCons, aStar, aAndV, aOrV, aAnd, aOr, aNotT, gNm, gTp, gNl, gCn, dIx, seqOf, lstOf, zsrc, dBI, dB1, dB2, Rz.fin, truth, dc_eq_int, dc_ne_int, dc_eq_fr, dc_eq_str, dc_ne_str, dc_lt, dc_le, dc_gt, dc_ge, dc_is, dc_isn, dBin, List.getElem?_cons_zero, List.getElem?_cons_succ, List.set_cons_zero, List.set_cons_succ, List.map_cons, List.map_nil, List.length_cons, List.length_nil, List.replicate, List.cons_append, List.nil_append, List.append_nil, Nat.reduceAdd, Nat.reduceSub, Nat.sub_self, Nat.reduceLeDiff, if_true, if_false, Bool.false_eq_true, reduceIte, Int.cast_ofNat_Int, eq_self, decide_true, decide_false, Bool.not_true, Bool.not_false, Bool.and_self, Bool.and_true, Bool.true_and, Bool.and_false, Bool.false_and, Bool.or_false, Bool.false_or, Bool.or_true, Bool.true_or, isi1, isi2, isi3, isi4, isi5, isi6, ok_int, deq_int, view_int, view_fr, view_str, ok_fr, eq_fr, view_tup, view_lst, ty_fr, tyN, List.any_cons, List.any_nil, atI_0, atI_1, atI_2, atI_3, atI_n, most, runB_rt, runB_nx, fin_same, gs_is_mix_of_1, lc, e3, all_map, fr1]
  simp [fin_same, runB_rt]
theorem e_is_belief (hK : 5 ≤ K) (v : Vs n m P W) (vc : Ch n c) : cF tb N K "is_belief_by" [setD P W, rowD c] h = some (.bl true, h) := by
  obtain ⟨j, rfl, hj⟩ := dep hK
  rw [call_at lk_is_belief_by (by rfl)]
  simp only [b_is_belief_by, dSs, dS_expr, dS_ret, dS_retN, dS_asg, dS_par, dS_aug, dS_ite, dS_for, dS_wh, dS_pass, dS_brk, dS_cnt, dP, dPs, dI, dG, dGs, dGn_eq, dB, cSeq, cRet, cExpr, cAsg, cPar, setAll, cAug, augI, cIte, aVar, aC, tst, aTup, aLst, aBin, aNeg, aCmp, aChain, aNot, aIte, aIx, aO, aSl, dCut, aCall, aCallk, aBi, aMeth, aFin, aEl, aOT, aSeq, aRange1_eq, aEnum, aZip, wipeE, List.foldl_cons, List.foldl_nil, aCons, aStar, aAndV, aOrV, aAnd, aOr, aNotT, gNm, gTp, gNl, gCn, dIx, seqOf, lstOf, zsrc, dBI, dB1, dB2, Rz.fin, truth, dc_eq_int, dc_ne_int, dc_eq_fr, dc_eq_str, dc_ne_str, dc_lt, dc_le, dc_gt, dc_ge, dc_is, dc_isn, dBin, List.getElem?_cons_zero, List.getElem?_cons_succ, List.set_cons_zero, List.set_cons_succ, List.map_cons, List.map_nil, List.length_cons, List.length_nil, List.replicate, List.cons_append, List.nil_append, List.append_nil, Nat.reduceAdd, Nat.reduceSub, Nat.sub_self, Nat.reduceLeDiff, if_true, if_false, Bool.false_eq_true, reduceIte, Int.cast_ofNat_Int, eq_self, decide_true, decide_false, Bool.not_true, Bool.not_false, Bool.and_self, Bool.and_true, Bool.true_and, Bool.and_false, Bool.false_and, Bool.or_false, Bool.false_or, Bool.or_true, Bool.true_or, isi1, isi2, isi3, isi4, isi5, isi6, ok_int, deq_int, view_int, view_fr, view_str, ok_fr, eq_fr, view_tup, view_lst, ty_fr, tyN, List.any_cons, List.any_nil, atI_0, atI_1, atI_2, atI_3, atI_n, most, runB_rt, runB_nx, fin_same, e_many_states (N := N) (h := h) (K := j) (by omega) v, e_is_mix (N := N) (h := h) (K := j) hj vc v.n4]
theorem e_is_action (hK : 3 ≤ K) (v : Vs n m P W) {i : Nat} (hi : i < m) : cF tb N K "is_action_by" [setD P W, .int i] h = some (.bl true, h) := by
  obtain ⟨j, rfl, hj⟩ := dep hK
  rw [call_at lk_is_action_by (by rfl)]
  simp only [b_is_action_by, dSs, dS_expr, dS_ret, dS_retN, dS_asg, dS_par, dS_aug, dS_ite, dS_for, dS_wh, dS_pass, dS_brk, dS_cnt, dP, dPs, dI, dG, dGs, dGn_eq, dB, cSeq, cRet, cExpr, cAsg, cPar, setAll, cAug, augI, cIte, aVar, aC, tst, aTup, aLst, aBin, aNeg, aCmp, aChain, aNot, aIte, aIx, aO, aSl, dCut, aCall, aCallk, aBi, aMeth, aFin, aEl, aOT, aSeq, aRange1_eq, aEnum, aZip, wipeE, List.foldl_cons, List.foldl_nil, aCons, aStar, aAndV, aOrV, aAnd, aOr, aNotT, gNm, gTp, gNl, gCn, dIx, seqOf, lstOf, zsrc, dBI, dB1, dB2, Rz.fin, truth, dc_eq_int, dc_ne_int, dc_eq_fr, dc_eq_str, dc_ne_str, dc_lt, dc_le, dc_gt, dc_ge, dc_is, dc_isn, dBin, List.getElem?_cons_zero, List.getElem?_cons_succ, List.set_cons_zero, List.set_cons_succ, List.map_cons, List.map_nil, List.length_cons, List.length_nil, List.replicate, List.cons_append, List.nil_append, List.append_nil, Nat.reduceAdd, Nat.reduceSub, Nat.sub_self, Nat.reduceLeDiff, if_true, if_false, Bool.false_eq_true, reduceIte, Int.cast_ofNat_Int, eq_self, decide_true, decide_false, Bool.not_true, Bool.not_false, Bool.and_self, Bool.and_true, Bool.true_and, Bool.and_false, Bool.false_and, Bool.or_false, Bool.false_or, Bool.or_true, Bool.true_or, isi1, isi2, isi3, isi4, isi5, isi6, ok_int, deq_int, view_int, view_fr, view_str, ok_fr, eq_fr, view_tup, view_lst, ty_fr, tyN, List.any_cons, List.any_nil, atI_0, atI_1, atI_2, atI_3, atI_n, most, runB_rt, runB_nx, fin_same, e_many_actions (N := N) (h := h) (K := j) (by omega) v, e_between (N := N) (h := h) (K := j) hj (i := i) (a := 0) (b := (m : Int) - 1) (by omega) (by omega)]
theorem e_is_state (hK : 3 ≤ K) (v : Vs n m P W) {i : Nat} (hi : i < n) : cF tb N K "is_state_by" [setD P W, .int i] h = some (.bl true, h) := by
  obtain ⟨j, rfl, hj⟩ := dep hK
  rw [call_at lk_is_state_by (by rfl)]
  simp only [b_is_state_by, dSs, dS_expr, dS_ret, dS_retN, dS_asg, dS_par, dS_aug, dS_ite, dS_for, dS_wh, dS_pass, dS_brk, dS_cnt, dP, dPs, dI, dG, dGs, dGn_eq, dB, cSeq, cRet, cExpr, cAsg, cPar, setAll, cAug, augI, cIte, aVar, aC, tst, aTup, aLst, aBin, aNeg, aCmp, aChain, aNot, aIte, aIx, aO, aSl, dCut, aCall, aCallk, aBi, aMeth, aFin, aEl, aOT, aSeq, aRange1_eq, aEnum, aZip, wipeE, List.foldl_cons, List.foldl_nil, aCons, aStar, aAndV, aOrV, aAnd, aOr, aNotT, gNm, gTp, gNl, gCn, dIx, seqOf, lstOf, zsrc, dBI, dB1, dB2, Rz.fin, truth, dc_eq_int, dc_ne_int, dc_eq_fr, dc_eq_str, dc_ne_str, dc_lt, dc_le, dc_gt, dc_ge, dc_is, dc_isn, dBin, List.getElem?_cons_zero, List.getElem?_cons_succ, List.set_cons_zero, List.set_cons_succ, List.map_cons, List.map_nil, List.length_cons, List.length_nil, List.replicate, List.cons_append, List.nil_append, List.append_nil, Nat.reduceAdd, Nat.reduceSub, Nat.sub_self, Nat.reduceLeDiff, if_true, if_false, Bool.false_eq_true, reduceIte, Int.cast_ofNat_Int, eq_self, decide_true, decide_false, Bool.not_true, Bool.not_false, Bool.and_self, Bool.and_true, Bool.true_and, Bool.and_false, Bool.false_and, Bool.or_false, Bool.false_or, Bool.or_true, Bool.true_or, isi1, isi2, isi3, isi4, isi5, isi6, ok_int, deq_int, view_int, view_fr, view_str, ok_fr, eq_fr, view_tup, view_lst, ty_fr, tyN, List.any_cons, List.any_nil, atI_0, atI_1, atI_2, atI_3, atI_n, most, runB_rt, runB_nx, fin_same, e_many_states (N := N) (h := h) (K := j) (by omega) v, e_between (N := N) (h := h) (K := j) hj (i := i) (a := 0) (b := (n : Int) - 1) (by omega) (by omega)]
def sureR (n i : Nat) : List Rat := (List.range n).map fun k => if k = i then 1 else 0
theorem lc_sure {j i : Nat} (hn : n ≤ 1000) : lcL none (gnF (cF tb N j) g_sure_by_1 [some (.int n), some (.int i), none]) ((List.range n).map fun i => .int (i : Nat)) [] h = some ((sureR n i).map fr, h) := by
  unfold sureR
  rw [List.map_map]
  refine lc_mapR (fun k => D.int (k : Nat)) (fun k => fr (if k = i then 1 else 0)) (fun k hk => ?_) (by rw [List.length_range]; unfold most; omega)
  by_cases z : k = i
  · have z2 : ((k : Int) = i) := by omega
    rw [if_pos z]
    simp only [gnF, g_sure_by_1, dSs, dS_expr, dS_ret, dS_retN, dS_asg, dS_par, dS_aug, dS_ite, dS_for, dS_wh, dS_pass, dS_brk, dS_cnt, dP, dPs, dI, dG, dGs, dGn_eq, dB, cSeq, cRet, cExpr, cAsg, cPar, setAll, cAug, augI, cIte, aVar, aC, tst, aTup, aLst, aBin, aNeg, aCmp, aChain, aNot, aIte, aIx, aO, aSl, dCut, aCall, aCallk, aBi, aMeth, aFin, aEl, aOT, aSeq, aRange1_eq, aEnum, aZip, wipeE, List.foldl_cons, List.foldl_nil, aCons, aStar, aAndV, aOrV, aAnd, aOr, aNotT, gNm, gTp, gNl, gCn, dIx, seqOf, lstOf, zsrc, dBI, dB1, dB2, Rz.fin, truth, dc_eq_int, dc_ne_int, dc_eq_fr, dc_eq_str, dc_ne_str, dc_lt, dc_le, dc_gt, dc_ge, dc_is, dc_isn, dBin, List.getElem?_cons_zero, List.getElem?_cons_succ, List.set_cons_zero, List.set_cons_succ, List.map_cons, List.map_nil, List.length_cons, List.length_nil, List.replicate, List.cons_append, List.nil_append, List.append_nil, Nat.reduceAdd, Nat.reduceSub, Nat.sub_self, Nat.reduceLeDiff, if_true, if_false, Bool.false_eq_true, reduceIte, Int.cast_ofNat_Int, eq_self, decide_true, decide_false, Bool.not_true, Bool.not_false, Bool.and_self, Bool.and_true, Bool.true_and, Bool.and_false, Bool.false_and, Bool.or_false, Bool.false_or, Bool.or_true, Bool.true_or, isi1, isi2, isi3, isi4, isi5, isi6, ok_int, deq_int, view_int, view_fr, view_str, ok_fr, eq_fr, view_tup, view_lst, ty_fr, tyN, List.any_cons, List.any_nil, atI_0, atI_1, atI_2, atI_3, atI_n, most, runB_rt, runB_nx, fin_same, fr0, fr1, z2]
  · have z2 : ¬ ((k : Int) = i) := by omega
    rw [if_neg z]
    simp only [gnF, g_sure_by_1, dSs, dS_expr, dS_ret, dS_retN, dS_asg, dS_par, dS_aug, dS_ite, dS_for, dS_wh, dS_pass, dS_brk, dS_cnt, dP, dPs, dI, dG, dGs, dGn_eq, dB, cSeq, cRet, cExpr, cAsg, cPar, setAll, cAug, augI, cIte, aVar, aC, tst, aTup, aLst, aBin, aNeg, aCmp, aChain, aNot, aIte, aIx, aO, aSl, dCut, aCall, aCallk, aBi, aMeth, aFin, aEl, aOT, aSeq, aRange1_eq, aEnum, aZip, wipeE, List.foldl_cons, List.foldl_nil, aCons, aStar, aAndV, aOrV, aAnd, aOr, aNotT, gNm, gTp, gNl, gCn, dIx, seqOf, lstOf, zsrc, dBI, dB1, dB2, Rz.fin, truth, dc_eq_int, dc_ne_int, dc_eq_fr, dc_eq_str, dc_ne_str, dc_lt, dc_le, dc_gt, dc_ge, dc_is, dc_isn, dBin, List.getElem?_cons_zero, List.getElem?_cons_succ, List.set_cons_zero, List.set_cons_succ, List.map_cons, List.map_nil, List.length_cons, List.length_nil, List.replicate, List.cons_append, List.nil_append, List.append_nil, Nat.reduceAdd, Nat.reduceSub, Nat.sub_self, Nat.reduceLeDiff, if_true, if_false, Bool.false_eq_true, reduceIte, Int.cast_ofNat_Int, eq_self, decide_true, decide_false, Bool.not_true, Bool.not_false, Bool.and_self, Bool.and_true, Bool.true_and, Bool.and_false, Bool.false_and, Bool.or_false, Bool.false_or, Bool.or_true, Bool.true_or, isi1, isi2, isi3, isi4, isi5, isi6, ok_int, deq_int, view_int, view_fr, view_str, ok_fr, eq_fr, view_tup, view_lst, ty_fr, tyN, List.any_cons, List.any_nil, atI_0, atI_1, atI_2, atI_3, atI_n, most, runB_rt, runB_nx, fin_same, fr0, fr1, z2]
theorem gn_of {cf : CF} {g : XG} {e : En} {h h1 h2 : AH} {ds xs : List D} {ck : Ck} (a : gnS cf g e h = some (ds, ck, h1)) (b : lcL ck (gnF cf g e) ds [] h1 = some (xs, h2)) : dGn cf g e h = some (xs, h2) := by
  rw [dGn_eq, a]
  exact b
theorem src_sure {i j : Nat} : gnS (cF tb N j) g_sure_by_1 [some (.int n), some (.int i), none] h = rng1 n h := by
  simp only [gs_sure_by_1, dSs, dS_expr, dS_ret, dS_retN, dS_asg, dS_par, dS_aug, dS_ite, dS_for, dS_wh, dS_pass, dS_brk, dS_cnt, dP, dPs, dI, dG, dGs, dGn_eq, dB, cSeq, cRet, cExpr, cAsg, cPar, setAll, cAug, augI, cIte, aVar, aC, tst, aTup, aLst, aBin, aNeg, aCmp, aChain, aNot, aIte, aIx, aO, aSl, dCut, aCall, aCallk, aBi, aMeth, aFin, aEl, aOT, aSeq, aRange1_eq, aEnum, aZip, wipeE, List.foldl_cons, List.foldl_nil, aCons, aStar, aAndV, aOrV, aAnd, aOr, aNotT, gNm, gTp, gNl, gCn, dIx, seqOf, lstOf, zsrc, dBI, dB1, dB2, Rz.fin, truth, dc_eq_int, dc_ne_int, dc_eq_fr, dc_eq_str, dc_ne_str, dc_lt, dc_le, dc_gt, dc_ge, dc_is, dc_isn, dBin, List.getElem?_cons_zero, List.getElem?_cons_succ, List.set_cons_zero, List.set_cons_succ, List.map_cons, List.map_nil, List.length_cons, List.length_nil, List.replicate, List.cons_append, List.nil_append, List.append_nil, Nat.reduceAdd, Nat.reduceSub, Nat.sub_self, Nat.reduceLeDiff, if_true, if_false, Bool.false_eq_true, reduceIte, Int.cast_ofNat_Int, eq_self, decide_true, decide_false, Bool.not_true, Bool.not_false, Bool.and_self, Bool.and_true, Bool.true_and, Bool.and_false, Bool.false_and, Bool.or_false, Bool.false_or, Bool.or_true, Bool.true_or, isi1, isi2, isi3, isi4, isi5, isi6, ok_int, deq_int, view_int, view_fr, view_str, ok_fr, eq_fr, view_tup, view_lst, ty_fr, tyN, List.any_cons, List.any_nil, atI_0, atI_1, atI_2, atI_3, atI_n, most, runB_rt, runB_nx, fin_same]
theorem gn_sure {i j : Nat} (hn : n ≤ 1000) : dGn (cF tb N j) g_sure_by_1 [some (.int n), some (.int i), none] h = some ((sureR n i).map fr, h) := gn_of (src_sure.trans (rng1_nat hn)) (lc_sure hn)
theorem run_sure {j : Nat} {x y : D} {zs : List D} (q : dGn (cF tb N j) g_sure_by_1 [some x, some y, none] h = some (zs, h)) : runB false (dSs (cF tb N j) N b_sure_by ([x, y].map some ++ List.replicate (3 - [x, y].length) none) h) h = some (.tup zs, h) := by
  simp only [b_sure_by, dSs, dS_expr, dS_ret, dS_retN, dS_asg, dS_par, dS_aug, dS_ite, dS_for, dS_wh, dS_pass, dS_brk, dS_cnt, dP, dPs, dI, dG, dGs, dB, cSeq, cRet, cExpr, cAsg, cPar, setAll, cAug, augI, cIte, aVar, aC, tst, aTup, aLst, aBin, aNeg, aCmp, aChain, aNot, aIte, aIx, aO, aSl, dCut, aCall, aCallk, aBi, aMeth, aFin, aEl, aOT, aSeq, aRange1_eq, aEnum, aZip, wipeE, List.foldl_cons, List.foldl_nil, aCons, aStar, aAndV, aOrV, aAnd, aOr, aNotT, gNm, gTp, gNl, gCn, dIx, seqOf, lstOf, zsrc, dBI, dB1, dB2, Rz.fin, truth, dc_eq_int, dc_ne_int, dc_eq_fr, dc_eq_str, dc_ne_str, dc_lt, dc_le, dc_gt, dc_ge, dc_is, dc_isn, dBin, List.getElem?_cons_zero, List.getElem?_cons_succ, List.set_cons_zero, List.set_cons_succ, List.map_cons, List.map_nil, List.length_cons, List.length_nil, List.replicate, List.cons_append, List.nil_append, List.append_nil, Nat.reduceAdd, Nat.reduceSub, Nat.sub_self, Nat.reduceLeDiff, if_true, if_false, Bool.false_eq_true, reduceIte, Int.cast_ofNat_Int, eq_self, decide_true, decide_false, Bool.not_true, Bool.not_false, Bool.and_self, Bool.and_true, Bool.true_and, Bool.and_false, Bool.false_and, Bool.or_false, Bool.false_or, Bool.or_true, Bool.true_or, isi1, isi2, isi3, isi4, isi5, isi6, ok_int, deq_int, view_int, view_fr, view_str, ok_fr, eq_fr, view_tup, view_lst, ty_fr, tyN, List.any_cons, List.any_nil, atI_0, atI_1, atI_2, atI_3, atI_n, most, runB_rt, runB_nx, fin_same, q]
theorem e_sure_by (hK : 1 ≤ K) {i : Nat} (hn : n ≤ 1000) : cF tb N K "sure_by" [.int n, .int i] h = some (rowD (sureR n i), h) := by
  obtain ⟨j, rfl, hj⟩ := dep hK
  rw [call_at lk_sure_by (by rfl)]
  exact run_sure (gn_sure hn)
/-! ### best ones -/
def mx : List Rat → Rat | [] => 0 | x :: l => maxR x l
def bestN (l : List Rat) : List Nat := (l.zipIdx.filter fun p => decide (p.1 = mx l)).map (·.2)
def sums (P : List (List Rat)) (c : List Rat) : List Rat := P.map fun r => dotR r c
theorem e_mx (hK : 2 ≤ K) {l : List Rat} (hl : ∀ y ∈ l, Sz big y) (h0 : l ≠ []) : cF tb N K "greatest_of" [.lst (l.map fr)] h = some (fr (mx l), h) := by
  cases l with
  | nil => exact absurd rfl h0
  | cons x l => exact e_greatest hK (hl x List.mem_cons_self) fun y hy => hl y (List.mem_cons_of_mem _ hy)
theorem sz_dot {a b : List Rat} (ha : ∀ x ∈ a, Sz 30000 x) (hb : ∀ x ∈ b, Sz 30000 x) (hl : a.length ≤ 50) : Sz big (dotR a b) := by
  unfold dotR
  have l2 : (a.zip b).length ≤ 50 := by rw [List.length_zip]; omega
  refine (Sz.sum (b := 60000) (a.zip b) sz0 fun p hp => (ha _ (List.of_mem_zip hp).1).mul (hb _ (List.of_mem_zip hp).2)).mono ?_
  have := Nat.mul_le_mul_right (60000 + 1) l2
  unfold big
  omega
theorem sz_sums {n m : Nat} (v : Tb n m P) (vc : Ch n c) (hn : n ≤ 4) : ∀ y ∈ sums P c, Sz big y := fun y hy => by
  obtain ⟨r, hr, rfl⟩ := List.mem_map.mp hy
  exact sz_dot (v.row r hr).2 vc.sz (by rw [(v.row r hr).1]; omega)
theorem e_best_by (hK : 5 ≤ K) (v : Vs n m P W) (vc : Ch n c) : cF tb N K "best_by" [setD P W, rowD c] h = some (.tup ((bestN (sums P c)).map fun i => .int (i : Nat)), h) := by
  obtain ⟨j, rfl, hj⟩ := dep hK
  rw [call_at lk_best_by (by rfl)]
  have hn4 := v.n4
  have hm5 := v.m5
  have lc : lcL none (gnF (cF tb N j) g_best_by_2 [some (setD P W), some (rowD c), none, none, none, none, none]) (P.map rowD) [] h = some ((sums P c).map fr, h) := by
    unfold sums
    rw [List.map_map]
    refine lc_mapR rowD _ (fun r hr => ?_) (by rw [v.p.len]; unfold most; omega)
    have e1 := e_dot (N := N) (h := h) (K := j) hj (a := r) (b := c) (fun x hx => ((v.p.row r hr).2 x hx).mono (by decide)) (fun x hx => (vc.sz x hx).mono (by decide)) (by rw [(v.p.row r hr).1]; omega)
    simp only [gnF, g_best_by_2, dSs, dS_expr, dS_ret, dS_retN, dS_asg, dS_par, dS_aug, dS_ite, dS_for, dS_wh, dS_pass, dS_brk, dS_cnt, dP, dPs, dI, dG, dGs, dGn_eq, dB, cSeq, cRet, cExpr, cAsg, cPar, setAll, cAug, augI, cIte, aVar, aC, tst, aTup, aLst, aBin, aNeg, aCmp, aChain, aNot, aIte, aIx, aO, aSl, dCut, aCall, aCallk, aBi, aMeth, aFin, aEl, aOT, aSeq, aRange1_eq, aEnum, aZip, wipeE, List.foldl_cons, List.foldl_nil, aCons, aStar, aAndV, aOrV, aAnd, aOr, aNotT, gNm, gTp, gNl, gCn, dIx, seqOf, lstOf, zsrc, dBI, dB1, dB2, Rz.fin, truth, dc_eq_int, dc_ne_int, dc_eq_fr, dc_eq_str, dc_ne_str, dc_lt, dc_le, dc_gt, dc_ge, dc_is, dc_isn, dBin, List.getElem?_cons_zero, List.getElem?_cons_succ, List.set_cons_zero, List.set_cons_succ, List.map_cons, List.map_nil, List.length_cons, List.length_nil, List.replicate, List.cons_append, List.nil_append, List.append_nil, Nat.reduceAdd, Nat.reduceSub, Nat.sub_self, Nat.reduceLeDiff, if_true, if_false, Bool.false_eq_true, reduceIte, Int.cast_ofNat_Int, eq_self, decide_true, decide_false, Bool.not_true, Bool.not_false, Bool.and_self, Bool.and_true, Bool.true_and, Bool.and_false, Bool.false_and, Bool.or_false, Bool.false_or, Bool.or_true, Bool.true_or, isi1, isi2, isi3, isi4, isi5, isi6, ok_int, deq_int, view_int, view_fr, view_str, ok_fr, eq_fr, view_tup, view_lst, ty_fr, tyN, List.any_cons, List.any_nil, atI_0, atI_1, atI_2, atI_3, atI_n, most, runB_rt, runB_nx, fin_same, e1, Function.comp_apply]
  have ne : sums P c ≠ [] := fun z => by
    have := congrArg List.length z
    unfold sums at this
    rw [List.length_map, v.p.len] at this
    have := v.m1
    simp at *
    omega
  have e2 := e_mx (N := N) (h := h) (K := j) (by omega) (sz_sums v.p vc v.n4) ne
  have lc2 : lcL none (gnF (cF tb N j) g_best_by_1 [some (setD P W), some (rowD c), some (.lst ((sums P c).map fr)), some (fr (mx (sums P c))), none, none, none]) (enumD ((sums P c).map fr)) [] h = some ((bestN (sums P c)).map fun i => .int (i : Nat), h) := by
    have e3 : enumD ((sums P c).map fr) = (sums P c).zipIdx.map fun p => .tup [.int (p.2 : Nat), fr p.1] := by
      unfold enumD
      rw [List.zipIdx_map, List.map_map] <;> rfl
    rw [e3]
    unfold bestN
    rw [List.map_map]
    refine lc_filR (fun p : Rat × Nat => D.tup [.int (p.2 : Nat), fr p.1]) (fun p => decide (p.1 = mx (sums P c))) _ (fun p hp => ?_) (by rw [List.length_zipIdx]; unfold sums; rw [List.length_map, v.p.len]; unfold most; omega)
    by_cases z : p.1 = mx (sums P c)
    · simp only [gnF, g_best_by_1, dSs, dS_expr, dS_ret, dS_retN, dS_asg, dS_par, dS_aug, dS_ite, dS_for, dS_wh, dS_pass, dS_brk, dS_cnt, dP, dPs, dI, dG, dGs, dGn_eq, dB, cSeq, cRet, cExpr, cAsg, cPar, setAll, cAug, augI, cIte, aVar, aC, tst, aTup, aLst, aBin, aNeg, aCmp, aChain, aNot, aIte, aIx, aO, aSl, dCut, aCall, aCallk, aBi, aMeth, aFin, aEl, aOT, aSeq, aRange1_eq, aEnum, aZip, wipeE, List.foldl_cons, List.foldl_nil, aCons, aStar, aAndV, aOrV, aAnd, aOr, aNotT, gNm, gTp, gNl, gCn, dIx, seqOf, lstOf, zsrc, dBI, dB1, dB2, Rz.fin, truth, dc_eq_int, dc_ne_int, dc_eq_fr, dc_eq_str, dc_ne_str, dc_lt, dc_le, dc_gt, dc_ge, dc_is, dc_isn, dBin, List.getElem?_cons_zero, List.getElem?_cons_succ, List.set_cons_zero, List.set_cons_succ, List.map_cons, List.map_nil, List.length_cons, List.length_nil, List.replicate, List.cons_append, List.nil_append, List.append_nil, Nat.reduceAdd, Nat.reduceSub, Nat.sub_self, Nat.reduceLeDiff, if_true, if_false, Bool.false_eq_true, reduceIte, Int.cast_ofNat_Int, eq_self, decide_true, decide_false, Bool.not_true, Bool.not_false, Bool.and_self, Bool.and_true, Bool.true_and, Bool.and_false, Bool.false_and, Bool.or_false, Bool.false_or, Bool.or_true, Bool.true_or, isi1, isi2, isi3, isi4, isi5, isi6, ok_int, deq_int, view_int, view_fr, view_str, ok_fr, eq_fr, view_tup, view_lst, ty_fr, tyN, List.any_cons, List.any_nil, atI_0, atI_1, atI_2, atI_3, atI_n, most, runB_rt, runB_nx, fin_same, z, Function.comp_apply]
    · simp only [gnF, g_best_by_1, dSs, dS_expr, dS_ret, dS_retN, dS_asg, dS_par, dS_aug, dS_ite, dS_for, dS_wh, dS_pass, dS_brk, dS_cnt, dP, dPs, dI, dG, dGs, dGn_eq, dB, cSeq, cRet, cExpr, cAsg, cPar, setAll, cAug, augI, cIte, aVar, aC, tst, aTup, aLst, aBin, aNeg, aCmp, aChain, aNot, aIte, aIx, aO, aSl, dCut, aCall, aCallk, aBi, aMeth, aFin, aEl, aOT, aSeq, aRange1_eq, aEnum, aZip, wipeE, List.foldl_cons, List.foldl_nil, aCons, aStar, aAndV, aOrV, aAnd, aOr, aNotT, gNm, gTp, gNl, gCn, dIx, seqOf, lstOf, zsrc, dBI, dB1, dB2, Rz.fin, truth, dc_eq_int, dc_ne_int, dc_eq_fr, dc_eq_str, dc_ne_str, dc_lt, dc_le, dc_gt, dc_ge, dc_is, dc_isn, dBin, List.getElem?_cons_zero, List.getElem?_cons_succ, List.set_cons_zero, List.set_cons_succ, List.map_cons, List.map_nil, List.length_cons, List.length_nil, List.replicate, List.cons_append, List.nil_append, List.append_nil, Nat.reduceAdd, Nat.reduceSub, Nat.sub_self, Nat.reduceLeDiff, if_true, if_false, Bool.false_eq_true, reduceIte, Int.cast_ofNat_Int, eq_self, decide_true, decide_false, Bool.not_true, Bool.not_false, Bool.and_self, Bool.and_true, Bool.true_and, Bool.and_false, Bool.false_and, Bool.or_false, Bool.false_or, Bool.or_true, Bool.true_or, isi1, isi2, isi3, isi4, isi5, isi6, ok_int, deq_int, view_int, view_fr, view_str, ok_fr, eq_fr, view_tup, view_lst, ty_fr, tyN, List.any_cons, List.any_nil, atI_0, atI_1, atI_2, atI_3, atI_n, most, runB_rt, runB_nx, fin_same, z, Function.comp_apply]
  have lb : (bestN (sums P c)).length ≤ 1000000 := by
    unfold bestN
    rw [List.length_map]
    refine Nat.le_trans (List.length_filter_le _ _) ?_
    rw [List.length_zipIdx]
    unfold sums
    rw [List.length_map, v.p.len]
    omega
  try simp only [b_best_by, dSs, dS_expr, dS_ret, dS_retN, dS_asg, dS_par, dS_aug, dS_ite, dS_for, dS_wh, dS_pass, dS_brk, dS_cnt, dP, dPs, dI, dG, dGs, dGn_eq, dB, cSeq, cRet, cExpr, cAsg, cPar, setAll, cAug, augI, cIte, aVar, aC, tst, aTup, aLst, aBin, aNeg, aCmp, aChain, aNot, aIte, aIx, aO, aSl, dCut, aCall, aCallk, aBi, aMeth, aFin, aEl, aOT, aSeq, aRange1_eq, aEnum, aZip, wipeE, List.foldl_cons, List.foldl_nil, aCons, aStar, aAndV, aOrV, aAnd, aOr, aNotT, gNm, gTp, gNl, gCn, dIx, seqOf, lstOf, zsrc, dBI, dB1, dB2, Rz.fin, truth, dc_eq_int, dc_ne_int, dc_eq_fr, dc_eq_str, dc_ne_str, dc_lt, dc_le, dc_gt, dc_ge, dc_is, dc_isn, dBin, List.getElem?_cons_zero, List.getElem?_cons_succ, List.set_cons_zero, List.set_cons_succ, List.map_cons, List.map_nil, List.length_cons, List.length_nil, List.replicate, List.cons_append, List.nil_append, List.append_nil, Nat.reduceAdd, Nat.reduceSub, Nat.sub_self, Nat.reduceLeDiff, if_true, if_false, Bool.false_eq_true, reduceIte, Int.cast_ofNat_Int, eq_self, decide_true, decide_false, Bool.not_true, Bool.not_false, Bool.and_self, Bool.and_true, Bool.true_and, Bool.and_false, Bool.false_and, Bool.or_false, Bool.false_or, Bool.or_true, Bool.true_or, isi1, isi2, isi3, isi4, isi5, isi6, ok_int, deq_int, view_int, view_fr, view_str, ok_fr, eq_fr, view_tup, view_lst, ty_fr, tyN, List.any_cons, List.any_nil, atI_0, atI_1, atI_2, atI_3, atI_n, most, runB_rt, runB_nx, fin_same, gs_best_by_1, gs_best_by_2, setD, tabD] at lc
  try simp only [b_best_by, dSs, dS_expr, dS_ret, dS_retN, dS_asg, dS_par, dS_aug, dS_ite, dS_for, dS_wh, dS_pass, dS_brk, dS_cnt, dP, dPs, dI, dG, dGs, dGn_eq, dB, cSeq, cRet, cExpr, cAsg, cPar, setAll, cAug, augI, cIte, aVar, aC, tst, aTup, aLst, aBin, aNeg, aCmp, aChain, aNot, aIte, aIx, aO, aSl, dCut, aCall, aCallk, aBi, aMeth, aFin, aEl, aOT, aSeq, aRange1_eq, aEnum, aZip, wipeE, List.foldl_cons, List.foldl_nil, aCons, aStar, aAndV, aOrV, aAnd, aOr, aNotT, gNm, gTp, gNl, gCn, dIx, seqOf, lstOf, zsrc, dBI, dB1, dB2, Rz.fin, truth, dc_eq_int, dc_ne_int, dc_eq_fr, dc_eq_str, dc_ne_str, dc_lt, dc_le, dc_gt, dc_ge, dc_is, dc_isn, dBin, List.getElem?_cons_zero, List.getElem?_cons_succ, List.set_cons_zero, List.set_cons_succ, List.map_cons, List.map_nil, List.length_cons, List.length_nil, List.replicate, List.cons_append, List.nil_append, List.append_nil, Nat.reduceAdd, Nat.reduceSub, Nat.sub_self, Nat.reduceLeDiff, if_true, if_false, Bool.false_eq_true, reduceIte, Int.cast_ofNat_Int, eq_self, decide_true, decide_false, Bool.not_true, Bool.not_false, Bool.and_self, Bool.and_true, Bool.true_and, Bool.and_false, Bool.false_and, Bool.or_false, Bool.false_or, Bool.or_true, Bool.true_or, isi1, isi2, isi3, isi4, isi5, isi6, ok_int, deq_int, view_int, view_fr, view_str, ok_fr, eq_fr, view_tup, view_lst, ty_fr, tyN, List.any_cons, List.any_nil, atI_0, atI_1, atI_2, atI_3, atI_n, most, runB_rt, runB_nx, fin_same, gs_best_by_1, gs_best_by_2, setD, tabD] at lc2
  try simp only [b_best_by, dSs, dS_expr, dS_ret, dS_retN, dS_asg, dS_par, dS_aug, dS_ite, dS_for, dS_wh, dS_pass, dS_brk, dS_cnt, dP, dPs, dI, dG, dGs, dGn_eq, dB, cSeq, cRet, cExpr, cAsg, cPar, setAll, cAug, augI, cIte, aVar, aC, tst, aTup, aLst, aBin, aNeg, aCmp, aChain, aNot, aIte, aIx, aO, aSl, dCut, aCall, aCallk, aBi, aMeth, aFin, aEl, aOT, aSeq, aRange1_eq, aEnum, aZip, wipeE, List.foldl_cons, List.foldl_nil, aCons, aStar, aAndV, aOrV, aAnd, aOr, aNotT, gNm, gTp, gNl, gCn, dIx, seqOf, lstOf, zsrc, dBI, dB1, dB2, Rz.fin, truth, dc_eq_int, dc_ne_int, dc_eq_fr, dc_eq_str, dc_ne_str, dc_lt, dc_le, dc_gt, dc_ge, dc_is, dc_isn, dBin, List.getElem?_cons_zero, List.getElem?_cons_succ, List.set_cons_zero, List.set_cons_succ, List.map_cons, List.map_nil, List.length_cons, List.length_nil, List.replicate, List.cons_append, List.nil_append, List.append_nil, Nat.reduceAdd, Nat.reduceSub, Nat.sub_self, Nat.reduceLeDiff, if_true, if_false, Bool.false_eq_true, reduceIte, Int.cast_ofNat_Int, eq_self, decide_true, decide_false, Bool.not_true, Bool.not_false, Bool.and_self, Bool.and_true, Bool.true_and, Bool.and_false, Bool.false_and, Bool.or_false, Bool.false_or, Bool.or_true, Bool.true_or, isi1, isi2, isi3, isi4, isi5, isi6, ok_int, deq_int, view_int, view_fr, view_str, ok_fr, eq_fr, view_tup, view_lst, ty_fr, tyN, List.any_cons, List.any_nil, atI_0, atI_1, atI_2, atI_3, atI_n, most, runB_rt, runB_nx, fin_same, gs_best_by_1, gs_best_by_2, setD, tabD]
  simp only [lc, dSs, dS_expr, dS_ret, dS_retN, dS_asg, dS_par, dS_aug, dS_ite, dS_for, dS_wh, dS_pass, dS_brk, dS_cnt, dP, dPs, dI, dG, dGs, dGn_eq, dB, cSeq, cRet, cExpr, cAsg, cPar, setAll, cAug, augI, cIte, aVar, aC, tst, aTup, aLst, aBin, aNeg, aCmp, aChain, aNot, aIte, aIx, aO, aSl, dCut, aCall, aCallk, aBi, aMeth, aFin, aEl, aOT, aSeq, aRange1_eq, aEnum, aZip, wipeE, List.foldl_cons, List.foldl_nil, aCons, aStar, aAndV, aOrV, aAnd, aOr, aNotT, gNm, gTp, gNl, gCn, dIx, seqOf, lstOf, zsrc, dBI, dB1, dB2, Rz.fin, truth, dc_eq_int, dc_ne_int, dc_eq_fr, dc_eq_str, dc_ne_str, dc_lt, dc_le, dc_gt, dc_ge, dc_is, dc_isn, dBin, List.getElem?_cons_zero, List.getElem?_cons_succ, List.set_cons_zero, List.set_cons_succ, List.map_cons, List.map_nil, List.length_cons, List.length_nil, List.replicate, List.cons_append, List.nil_append, List.append_nil, Nat.reduceAdd, Nat.reduceSub, Nat.sub_self, Nat.reduceLeDiff, if_true, if_false, Bool.false_eq_true, reduceIte, Int.cast_ofNat_Int, eq_self, decide_true, decide_false, Bool.not_true, Bool.not_false, Bool.and_self, Bool.and_true, Bool.true_and, Bool.and_false, Bool.false_and, Bool.or_false, Bool.false_or, Bool.or_true, Bool.true_or, isi1, isi2, isi3, isi4, isi5, isi6, ok_int, deq_int, view_int, view_fr, view_str, ok_fr, eq_fr, view_tup, view_lst, ty_fr, tyN, List.any_cons, List.any_nil, atI_0, atI_1, atI_2, atI_3, atI_n, most, runB_rt, runB_nx, fin_same, e2, gs_best_by_1, lc2]
theorem at_tab {n m : Nat} (v : Tb n m W) {a : Nat} (ha : a < m) : ∃ r, W[a]? = some r ∧ r ∈ W ∧ r.length = n := by
  have l : a < W.length := by rw [v.len]; exact ha
  exact ⟨W[a], List.getElem?_eq_getElem l, List.getElem_mem l, (v.row _ (List.getElem_mem l)).1⟩
def nth (W : List (List Rat)) (a : Nat) : List Rat := W.getD a []
theorem nth_at {a : Nat} {r : List Rat} (h : W[a]? = some r) : nth W a = r := by
  unfold nth
  rw [List.getD_eq_getElem?_getD, h] <;> rfl
theorem e_worth_by (hK : 5 ≤ K) (v : Vs n m P W) (vc : Ch n c) {a : Nat} (ha : a < m) : cF tb N K "worth_by" [setD P W, .int a, rowD c] h = some (fr (dotR (nth W a) c), h) := by
  obtain ⟨j, rfl, hj⟩ := dep hK
  rw [call_at lk_worth_by (by rfl)]
  obtain ⟨r, e1, e2, e3⟩ := at_tab v.w ha
  have hn4 := v.n4
  have e4 := e_dot (N := N) (h := h) (K := j) hj (a := r) (b := c) (fun x hx => ((v.w.row r e2).2 x hx).mono (by decide)) (fun x hx => (vc.sz x hx).mono (by decide)) (by omega)
  rw [nth_at e1]
  simp only [b_worth_by, dSs, dS_expr, dS_ret, dS_retN, dS_asg, dS_par, dS_aug, dS_ite, dS_for, dS_wh, dS_pass, dS_brk, dS_cnt, dP, dPs, dI, dG, dGs, dGn_eq, dB, cSeq, cRet, cExpr, cAsg, cPar, setAll, cAug, augI, cIte, aVar, aC, tst, aTup, aLst, aBin, aNeg, aCmp, aChain, aNot, aIte, aIx, aO, aSl, dCut, aCall, aCallk, aBi, aMeth, aFin, aEl, aOT, aSeq, aRange1_eq, aEnum, aZip, wipeE, List.foldl_cons, List.foldl_nil, aCons, aStar, aAndV, aOrV, aAnd, aOr, aNotT, gNm, gTp, gNl, gCn, dIx, seqOf, lstOf, zsrc, dBI, dB1, dB2, Rz.fin, truth, dc_eq_int, dc_ne_int, dc_eq_fr, dc_eq_str, dc_ne_str, dc_lt, dc_le, dc_gt, dc_ge, dc_is, dc_isn, dBin, List.getElem?_cons_zero, List.getElem?_cons_succ, List.set_cons_zero, List.set_cons_succ, List.map_cons, List.map_nil, List.length_cons, List.length_nil, List.replicate, List.cons_append, List.nil_append, List.append_nil, Nat.reduceAdd, Nat.reduceSub, Nat.sub_self, Nat.reduceLeDiff, if_true, if_false, Bool.false_eq_true, reduceIte, Int.cast_ofNat_Int, eq_self, decide_true, decide_false, Bool.not_true, Bool.not_false, Bool.and_self, Bool.and_true, Bool.true_and, Bool.and_false, Bool.false_and, Bool.or_false, Bool.false_or, Bool.or_true, Bool.true_or, isi1, isi2, isi3, isi4, isi5, isi6, ok_int, deq_int, view_int, view_fr, view_str, ok_fr, eq_fr, view_tup, view_lst, ty_fr, tyN, List.any_cons, List.any_nil, atI_0, atI_1, atI_2, atI_3, atI_n, most, runB_rt, runB_nx, fin_same, setD, tabD, List.getElem?_map, e1, Option.map_some, e4]
end Row
namespace Row
open PySem PySem.Spec PyProof.Rows L2 Ev
variable {N K : Nat} {h : AH} {P W : List (List Rat)} {n m : Nat} {c : List Rat}
/-! ### greatest ones, plainly -/
theorem maxR_ge : ∀ (l : List Rat) (x : Rat), x ≤ maxR x l ∧ ∀ y ∈ l, y ≤ maxR x l
  | [], x => ⟨Rat.le_refl, fun y hy => by cases hy⟩
  | a :: l, x => by
    have e : maxR x (a :: l) = maxR (if x < a then a else x) l := rfl
    rw [e]
    obtain ⟨h1, h2⟩ := maxR_ge l (if x < a then a else x)
    by_cases z : x < a
    · rw [if_pos z] at h1 h2 ⊢
      refine ⟨by grind, fun y hy => ?_⟩
      rcases List.mem_cons.mp hy with q | q
      · subst q; exact h1
      · exact h2 y q
    · rw [if_neg z] at h1 h2 ⊢
      refine ⟨h1, fun y hy => ?_⟩
      rcases List.mem_cons.mp hy with q | q
      · subst q; grind
      · exact h2 y q
theorem maxR_mem : ∀ (l : List Rat) (x : Rat), maxR x l = x ∨ maxR x l ∈ l
  | [], x => .inl rfl
  | a :: l, x => by
    have e : maxR x (a :: l) = maxR (if x < a then a else x) l := rfl
    rw [e]
    rcases maxR_mem l (if x < a then a else x) with q | q
    · by_cases z : x < a
      · rw [if_pos z] at q ⊢; exact .inr (by rw [q]; exact List.mem_cons_self)
      · rw [if_neg z] at q ⊢; exact .inl q
    · exact .inr (List.mem_cons_of_mem _ q)
theorem mx_ge {l : List Rat} : ∀ y ∈ l, y ≤ mx l := fun y hy => by
  cases l with
  | nil => cases hy
  | cons x l =>
    obtain ⟨h1, h2⟩ := maxR_ge l x
    rcases List.mem_cons.mp hy with q | q
    · subst q; exact h1
    · exact h2 y q
theorem mx_mem {l : List Rat} (h : l ≠ []) : mx l ∈ l := by
  cases l with
  | nil => exact absurd rfl h
  | cons x l =>
    rcases maxR_mem l x with q | q
    · show maxR x l ∈ _
      rw [q]; exact List.mem_cons_self
    · exact List.mem_cons_of_mem _ q
theorem mem_bestN {l : List Rat} {i : Nat} : i ∈ bestN l ↔ l[i]? = some (mx l) := by
  unfold bestN
  rw [List.mem_map]
  constructor
  · rintro ⟨p, hp, rfl⟩
    rw [List.mem_filter, decide_eq_true_eq] at hp
    obtain ⟨h1, h2⟩ := hp
    have := List.mem_zipIdx_iff_getElem?.1 h1
    rw [this, h2]
  · intro e
    exact ⟨(mx l, i), by rw [List.mem_filter, decide_eq_true_eq]; exact ⟨List.mem_zipIdx_iff_getElem?.2 e, rfl⟩, rfl⟩
theorem bestN_ne {l : List Rat} (h : l ≠ []) : bestN l ≠ [] := fun z => by
  obtain ⟨i, hi⟩ := List.mem_iff_getElem?.mp (mx_mem h)
  have := mem_bestN.2 hi
  rw [z] at this
  cases this
theorem bestN_len {l : List Rat} : (bestN l).length ≤ l.length := by
  unfold bestN
  rw [List.length_map]
  exact Nat.le_trans (List.length_filter_le _ _) (by rw [List.length_zipIdx]; exact Nat.le_refl _)
theorem sums_len : (sums P c).length = P.length := by unfold sums; rw [List.length_map]
theorem sums_ne (v : Tb n m P) (h1 : 1 ≤ m) : sums P c ≠ [] := fun z => by
  have := congrArg List.length z
  rw [sums_len, v.len] at this
  simp at this
  omega
theorem best_lt (v : Tb n m P) {i : Nat} (hi : i ∈ bestN (sums P c)) : i < m := by
  have := (List.getElem?_eq_some_iff.mp (mem_bestN.1 hi)).1
  rw [sums_len, v.len] at this
  exact this
/-! ### value, choice -/
def wsR (P W : List (List Rat)) (c : List Rat) : List Rat := (bestN (sums P c)).map fun a => dotR (nth W a) c
theorem wsR_ne (v : Vs n m P W) : wsR P W c ≠ [] := fun z => by
  have := List.map_eq_nil_iff.1 z
  exact bestN_ne (sums_ne v.p v.m1) this
theorem sz_nth (v : Tb n m W) (vc : Ch n c) (hn : n ≤ 4) {a : Nat} (ha : a < m) : Sz big (dotR (nth W a) c) := by
  obtain ⟨r, e1, e2, e3⟩ := at_tab v ha
  rw [nth_at e1]
  exact sz_dot (v.row r e2).2 vc.sz (by omega)
theorem sz_ws (v : Vs n m P W) (vc : Ch n c) : ∀ y ∈ wsR P W c, Sz big y := fun y hy => by
  obtain ⟨a, ha, rfl⟩ := List.mem_map.mp hy
  exact sz_nth v.w vc v.n4 (best_lt v.p ha)
theorem best_few (v : Vs n m P W) : (bestN (sums P c)).length < 1000000 := by
  have := bestN_len (l := sums P c)
  rw [sums_len, v.p.len] at this
  have := v.m5
  omega
theorem e_value_by (hK : 6 ≤ K) (v : Vs n m P W) (vc : Ch n c) : cF tb N K "value_by" [setD P W, rowD c] h = some (fr (mx (wsR P W c)), h) := by
  obtain ⟨j, rfl, hj⟩ := dep hK
  rw [call_at lk_value_by (by rfl)]
  have e1 := e_best_by (N := N) (h := h) hj v vc
  have lc : lcL none (gnF (cF tb N j) g_value_by_1 [some (setD P W), some (rowD c), none]) ((bestN (sums P c)).map fun i => .int (i : Nat)) [] h = some ((wsR P W c).map fr, h) := by
    unfold wsR
    rw [List.map_map]
    refine lc_mapR (fun i : Nat => D.int (i : Nat)) _ (fun a ha => ?_) (best_few v)
    simp only [gnF, g_value_by_1, dSs, dS_expr, dS_ret, dS_retN, dS_asg, dS_par, dS_aug, dS_ite, dS_for, dS_wh, dS_pass, dS_brk, dS_cnt, dP, dPs, dI, dG, dGs, dGn_eq, dB, cSeq, cRet, cExpr, cAsg, cPar, setAll, cAug, augI, cIte, aVar, aC, tst, aTup, aLst, aBin, aNeg, aCmp, aChain, aNot, aIte, aIx, aO, aSl, dCut, aCall, aCallk, aBi, aMeth, aFin, aEl, aOT, aSeq, aRange1_eq, aEnum, aZip, wipeE, List.foldl_cons, List.foldl_nil, aCons, aStar, aAndV, aOrV, aAnd, aOr, aNotT, gNm, gTp, gNl, gCn, dIx, seqOf, lstOf, zsrc, dBI, dB1, dB2, Rz.fin, truth, dc_eq_int, dc_ne_int, dc_eq_fr, dc_eq_str, dc_ne_str, dc_lt, dc_le, dc_gt, dc_ge, dc_is, dc_isn, dBin, List.getElem?_cons_zero, List.getElem?_cons_succ, List.set_cons_zero, List.set_cons_succ, List.map_cons, List.map_nil, List.length_cons, List.length_nil, List.replicate, List.cons_append, List.nil_append, List.append_nil, Nat.reduceAdd, Nat.reduceSub, Nat.sub_self, Nat.reduceLeDiff, if_true, if_false, Bool.false_eq_true, reduceIte, Int.cast_ofNat_Int, eq_self, decide_true, decide_false, Bool.not_true, Bool.not_false, Bool.and_self, Bool.and_true, Bool.true_and, Bool.and_false, Bool.false_and, Bool.or_false, Bool.false_or, Bool.or_true, Bool.true_or, isi1, isi2, isi3, isi4, isi5, isi6, ok_int, deq_int, view_int, view_fr, view_str, ok_fr, eq_fr, view_tup, view_lst, ty_fr, tyN, List.any_cons, List.any_nil, atI_0, atI_1, atI_2, atI_3, atI_n, most, runB_rt, runB_nx, fin_same, e_worth_by (N := N) (h := h) hj v vc (best_lt v.p ha), Function.comp_apply]
  have e2 := e_mx (N := N) (h := h) (K := j) (by omega) (sz_ws v vc) (wsR_ne v)
  simp only [b_value_by, dSs, dS_expr, dS_ret, dS_retN, dS_asg, dS_par, dS_aug, dS_ite, dS_for, dS_wh, dS_pass, dS_brk, dS_cnt, dP, dPs, dI, dG, dGs, dGn_eq, dB, cSeq, cRet, cExpr, cAsg, cPar, setAll, cAug, augI, cIte, aVar, aC, tst, aTup, aLst, aBin, aNeg, aCmp, aChain, aNot, aIte, aIx, aO, aSl, dCut, aCall, aCallk, aBi, aMeth, aFin, aEl, aOT, aSeq, aRange1_eq, aEnum, aZip, wipeE, List.foldl_cons, List.foldl_nil, aCons, aStar, aAndV, aOrV, aAnd, aOr, aNotT, gNm, gTp, gNl, gCn, dIx, seqOf, lstOf, zsrc, dBI, dB1, dB2, Rz.fin, truth, dc_eq_int, dc_ne_int, dc_eq_fr, dc_eq_str, dc_ne_str, dc_lt, dc_le, dc_gt, dc_ge, dc_is, dc_isn, dBin, List.getElem?_cons_zero, List.getElem?_cons_succ, List.set_cons_zero, List.set_cons_succ, List.map_cons, List.map_nil, List.length_cons, List.length_nil, List.replicate, List.cons_append, List.nil_append, List.append_nil, Nat.reduceAdd, Nat.reduceSub, Nat.sub_self, Nat.reduceLeDiff, if_true, if_false, Bool.false_eq_true, reduceIte, Int.cast_ofNat_Int, eq_self, decide_true, decide_false, Bool.not_true, Bool.not_false, Bool.and_self, Bool.and_true, Bool.true_and, Bool.and_false, Bool.false_and, Bool.or_false, Bool.false_or, Bool.or_true, Bool.true_or, isi1, isi2, isi3, isi4, isi5, isi6, ok_int, deq_int, view_int, view_fr, view_str, ok_fr, eq_fr, view_tup, view_lst, ty_fr, tyN, List.any_cons, List.any_nil, atI_0, atI_1, atI_2, atI_3, atI_n, most, runB_rt, runB_nx, fin_same, gs_value_by_1, e1, lc, e2]
def choiceN (P W : List (List Rat)) (c : List Rat) : List Nat := (bestN (sums P c)).filter fun a => decide (dotR (nth W a) c = mx (wsR P W c))
theorem choice_ne (v : Vs n m P W) : choiceN P W c ≠ [] := fun z => by
  obtain ⟨a, ha, e⟩ := List.mem_map.mp (mx_mem (wsR_ne (c := c) v))
  have : a ∈ choiceN P W c := by
    unfold choiceN
    rw [List.mem_filter, decide_eq_true_eq]
    exact ⟨ha, e⟩
  rw [z] at this
  cases this
theorem e_choice_by (hK : 7 ≤ K) (v : Vs n m P W) (vc : Ch n c) : ∃ a r, choiceN P W c = a :: r ∧ cF tb N K "choice_by" [setD P W, rowD c] h = some (.int (a : Nat), h) := by
  obtain ⟨j, rfl, hj⟩ := dep hK
  rw [call_at lk_choice_by (by rfl)]
  obtain ⟨a, r, e0⟩ := List.exists_cons_of_ne_nil (choice_ne (c := c) v)
  refine ⟨a, r, e0, ?_⟩
  have e1 := e_best_by (N := N) (h := h) (K := j) (by omega) v vc
  have e2 := e_value_by (N := N) (h := h) (K := j) hj v vc
  have lc : lcL none (gnF (cF tb N j) g_choice_by_1 [some (setD P W), some (rowD c), some (fr (mx (wsR P W c))), none]) ((bestN (sums P c)).map fun i => .int (i : Nat)) [] h = some ((a :: r).map fun i => .int (i : Nat), h) := by
    rw [← e0]
    unfold choiceN
    refine lc_filR (fun i : Nat => D.int (i : Nat)) _ _ (fun a ha => ?_) (best_few v)
    by_cases z : dotR (nth W a) c = mx (wsR P W c)
    · simp only [gnF, g_choice_by_1, dSs, dS_expr, dS_ret, dS_retN, dS_asg, dS_par, dS_aug, dS_ite, dS_for, dS_wh, dS_pass, dS_brk, dS_cnt, dP, dPs, dI, dG, dGs, dGn_eq, dB, cSeq, cRet, cExpr, cAsg, cPar, setAll, cAug, augI, cIte, aVar, aC, tst, aTup, aLst, aBin, aNeg, aCmp, aChain, aNot, aIte, aIx, aO, aSl, dCut, aCall, aCallk, aBi, aMeth, aFin, aEl, aOT, aSeq, aRange1_eq, aEnum, aZip, wipeE, List.foldl_cons, List.foldl_nil, aCons, aStar, aAndV, aOrV, aAnd, aOr, aNotT, gNm, gTp, gNl, gCn, dIx, seqOf, lstOf, zsrc, dBI, dB1, dB2, Rz.fin, truth, dc_eq_int, dc_ne_int, dc_eq_fr, dc_eq_str, dc_ne_str, dc_lt, dc_le, dc_gt, dc_ge, dc_is, dc_isn, dBin, List.getElem?_cons_zero, List.getElem?_cons_succ, List.set_cons_zero, List.set_cons_succ, List.map_cons, List.map_nil, List.length_cons, List.length_nil, List.replicate, List.cons_append, List.nil_append, List.append_nil, Nat.reduceAdd, Nat.reduceSub, Nat.sub_self, Nat.reduceLeDiff, if_true, if_false, Bool.false_eq_true, reduceIte, Int.cast_ofNat_Int, eq_self, decide_true, decide_false, Bool.not_true, Bool.not_false, Bool.and_self, Bool.and_true, Bool.true_and, Bool.and_false, Bool.false_and, Bool.or_false, Bool.false_or, Bool.or_true, Bool.true_or, isi1, isi2, isi3, isi4, isi5, isi6, ok_int, deq_int, view_int, view_fr, view_str, ok_fr, eq_fr, view_tup, view_lst, ty_fr, tyN, List.any_cons, List.any_nil, atI_0, atI_1, atI_2, atI_3, atI_n, most, runB_rt, runB_nx, fin_same, e_worth_by (N := N) (h := h) (K := j) (by omega) v vc (best_lt v.p ha), z]
    · simp only [gnF, g_choice_by_1, dSs, dS_expr, dS_ret, dS_retN, dS_asg, dS_par, dS_aug, dS_ite, dS_for, dS_wh, dS_pass, dS_brk, dS_cnt, dP, dPs, dI, dG, dGs, dGn_eq, dB, cSeq, cRet, cExpr, cAsg, cPar, setAll, cAug, augI, cIte, aVar, aC, tst, aTup, aLst, aBin, aNeg, aCmp, aChain, aNot, aIte, aIx, aO, aSl, dCut, aCall, aCallk, aBi, aMeth, aFin, aEl, aOT, aSeq, aRange1_eq, aEnum, aZip, wipeE, List.foldl_cons, List.foldl_nil, aCons, aStar, aAndV, aOrV, aAnd, aOr, aNotT, gNm, gTp, gNl, gCn, dIx, seqOf, lstOf, zsrc, dBI, dB1, dB2, Rz.fin, truth, dc_eq_int, dc_ne_int, dc_eq_fr, dc_eq_str, dc_ne_str, dc_lt, dc_le, dc_gt, dc_ge, dc_is, dc_isn, dBin, List.getElem?_cons_zero, List.getElem?_cons_succ, List.set_cons_zero, List.set_cons_succ, List.map_cons, List.map_nil, List.length_cons, List.length_nil, List.replicate, List.cons_append, List.nil_append, List.append_nil, Nat.reduceAdd, Nat.reduceSub, Nat.sub_self, Nat.reduceLeDiff, if_true, if_false, Bool.false_eq_true, reduceIte, Int.cast_ofNat_Int, eq_self, decide_true, decide_false, Bool.not_true, Bool.not_false, Bool.and_self, Bool.and_true, Bool.true_and, Bool.and_false, Bool.false_and, Bool.or_false, Bool.false_or, Bool.or_true, Bool.true_or, isi1, isi2, isi3, isi4, isi5, isi6, ok_int, deq_int, view_int, view_fr, view_str, ok_fr, eq_fr, view_tup, view_lst, ty_fr, tyN, List.any_cons, List.any_nil, atI_0, atI_1, atI_2, atI_3, atI_n, most, runB_rt, runB_nx, fin_same, e_worth_by (N := N) (h := h) (K := j) (by omega) v vc (best_lt v.p ha), z]
  simp only [b_choice_by, dSs, dS_expr, dS_ret, dS_retN, dS_asg, dS_par, dS_aug, dS_ite, dS_for, dS_wh, dS_pass, dS_brk, dS_cnt, dP, dPs, dI, dG, dGs, dGn_eq, dB, cSeq, cRet, cExpr, cAsg, cPar, setAll, cAug, augI, cIte, aVar, aC, tst, aTup, aLst, aBin, aNeg, aCmp, aChain, aNot, aIte, aIx, aO, aSl, dCut, aCall, aCallk, aBi, aMeth, aFin, aEl, aOT, aSeq, aRange1_eq, aEnum, aZip, wipeE, List.foldl_cons, List.foldl_nil, aCons, aStar, aAndV, aOrV, aAnd, aOr, aNotT, gNm, gTp, gNl, gCn, dIx, seqOf, lstOf, zsrc, dBI, dB1, dB2, Rz.fin, truth, dc_eq_int, dc_ne_int, dc_eq_fr, dc_eq_str, dc_ne_str, dc_lt, dc_le, dc_gt, dc_ge, dc_is, dc_isn, dBin, List.getElem?_cons_zero, List.getElem?_cons_succ, List.set_cons_zero, List.set_cons_succ, List.map_cons, List.map_nil, List.length_cons, List.length_nil, List.replicate, List.cons_append, List.nil_append, List.append_nil, Nat.reduceAdd, Nat.reduceSub, Nat.sub_self, Nat.reduceLeDiff, if_true, if_false, Bool.false_eq_true, reduceIte, Int.cast_ofNat_Int, eq_self, decide_true, decide_false, Bool.not_true, Bool.not_false, Bool.and_self, Bool.and_true, Bool.true_and, Bool.and_false, Bool.false_and, Bool.or_false, Bool.false_or, Bool.or_true, Bool.true_or, isi1, isi2, isi3, isi4, isi5, isi6, ok_int, deq_int, view_int, view_fr, view_str, ok_fr, eq_fr, view_tup, view_lst, ty_fr, tyN, List.any_cons, List.any_nil, atI_0, atI_1, atI_2, atI_3, atI_n, most, runB_rt, runB_nx, fin_same, gs_choice_by_1, e1, e2, lc]
/-! ### what is checked, what is asked -/
theorem e_check_setting (hK : 6 ≤ K) (v : Vs n m P W) : cF tb N K "check_setting" [setD P W] h = some (.non, h) := by
  obtain ⟨j, rfl, hj⟩ := dep hK
  rw [call_at lk_check_setting (by rfl)]
  simp only [b_check_setting, dSs, dS_expr, dS_ret, dS_retN, dS_asg, dS_par, dS_aug, dS_ite, dS_for, dS_wh, dS_pass, dS_brk, dS_cnt, dP, dPs, dI, dG, dGs, dGn_eq, dB, cSeq, cRet, cExpr, cAsg, cPar, setAll, cAug, augI, cIte, aVar, aC, tst, aTup, aLst, aBin, aNeg, aCmp, aChain, aNot, aIte, aIx, aO, aSl, dCut, aCall, aCallk, aBi, aMeth, aFin, aEl, aOT, aSeq, aRange1_eq, aEnum, aZip, wipeE, List.foldl_cons, List.foldl_nil, aCons, aStar, aAndV, aOrV, aAnd, aOr, aNotT, gNm, gTp, gNl, gCn, dIx, seqOf, lstOf, zsrc, dBI, dB1, dB2, Rz.fin, truth, dc_eq_int, dc_ne_int, dc_eq_fr, dc_eq_str, dc_ne_str, dc_lt, dc_le, dc_gt, dc_ge, dc_is, dc_isn, dBin, List.getElem?_cons_zero, List.getElem?_cons_succ, List.set_cons_zero, List.set_cons_succ, List.map_cons, List.map_nil, List.length_cons, List.length_nil, List.replicate, List.cons_append, List.nil_append, List.append_nil, Nat.reduceAdd, Nat.reduceSub, Nat.sub_self, Nat.reduceLeDiff, if_true, if_false, Bool.false_eq_true, reduceIte, Int.cast_ofNat_Int, eq_self, decide_true, decide_false, Bool.not_true, Bool.not_false, Bool.and_self, Bool.and_true, Bool.true_and, Bool.and_false, Bool.false_and, Bool.or_false, Bool.false_or, Bool.or_true, Bool.true_or, isi1, isi2, isi3, isi4, isi5, isi6, ok_int, deq_int, view_int, view_fr, view_str, ok_fr, eq_fr, view_tup, view_lst, ty_fr, tyN, List.any_cons, List.any_nil, atI_0, atI_1, atI_2, atI_3, atI_n, most, runB_rt, runB_nx, fin_same, e_is_setting (N := N) (h := h) hj v]
theorem e_check_belief (hK : 6 ≤ K) (v : Vs n m P W) (vc : Ch n c) : cF tb N K "check_belief" [setD P W, rowD c] h = some (.non, h) := by
  obtain ⟨j, rfl, hj⟩ := dep hK
  rw [call_at lk_check_belief (by rfl)]
  simp only [b_check_belief, dSs, dS_expr, dS_ret, dS_retN, dS_asg, dS_par, dS_aug, dS_ite, dS_for, dS_wh, dS_pass, dS_brk, dS_cnt, dP, dPs, dI, dG, dGs, dGn_eq, dB, cSeq, cRet, cExpr, cAsg, cPar, setAll, cAug, augI, cIte, aVar, aC, tst, aTup, aLst, aBin, aNeg, aCmp, aChain, aNot, aIte, aIx, aO, aSl, dCut, aCall, aCallk, aBi, aMeth, aFin, aEl, aOT, aSeq, aRange1_eq, aEnum, aZip, wipeE, List.foldl_cons, List.foldl_nil, aCons, aStar, aAndV, aOrV, aAnd, aOr, aNotT, gNm, gTp, gNl, gCn, dIx, seqOf, lstOf, zsrc, dBI, dB1, dB2, Rz.fin, truth, dc_eq_int, dc_ne_int, dc_eq_fr, dc_eq_str, dc_ne_str, dc_lt, dc_le, dc_gt, dc_ge, dc_is, dc_isn, dBin, List.getElem?_cons_zero, List.getElem?_cons_succ, List.set_cons_zero, List.set_cons_succ, List.map_cons, List.map_nil, List.length_cons, List.length_nil, List.replicate, List.cons_append, List.nil_append, List.append_nil, Nat.reduceAdd, Nat.reduceSub, Nat.sub_self, Nat.reduceLeDiff, if_true, if_false, Bool.false_eq_true, reduceIte, Int.cast_ofNat_Int, eq_self, decide_true, decide_false, Bool.not_true, Bool.not_false, Bool.and_self, Bool.and_true, Bool.true_and, Bool.and_false, Bool.false_and, Bool.or_false, Bool.false_or, Bool.or_true, Bool.true_or, isi1, isi2, isi3, isi4, isi5, isi6, ok_int, deq_int, view_int, view_fr, view_str, ok_fr, eq_fr, view_tup, view_lst, ty_fr, tyN, List.any_cons, List.any_nil, atI_0, atI_1, atI_2, atI_3, atI_n, most, runB_rt, runB_nx, fin_same, e_is_belief (N := N) (h := h) hj v vc]
theorem e_check_action (hK : 4 ≤ K) (v : Vs n m P W) {i : Nat} (hi : i < m) : cF tb N K "check_action" [setD P W, .int i] h = some (.non, h) := by
  obtain ⟨j, rfl, hj⟩ := dep hK
  rw [call_at lk_check_action (by rfl)]
  simp only [b_check_action, dSs, dS_expr, dS_ret, dS_retN, dS_asg, dS_par, dS_aug, dS_ite, dS_for, dS_wh, dS_pass, dS_brk, dS_cnt, dP, dPs, dI, dG, dGs, dGn_eq, dB, cSeq, cRet, cExpr, cAsg, cPar, setAll, cAug, augI, cIte, aVar, aC, tst, aTup, aLst, aBin, aNeg, aCmp, aChain, aNot, aIte, aIx, aO, aSl, dCut, aCall, aCallk, aBi, aMeth, aFin, aEl, aOT, aSeq, aRange1_eq, aEnum, aZip, wipeE, List.foldl_cons, List.foldl_nil, aCons, aStar, aAndV, aOrV, aAnd, aOr, aNotT, gNm, gTp, gNl, gCn, dIx, seqOf, lstOf, zsrc, dBI, dB1, dB2, Rz.fin, truth, dc_eq_int, dc_ne_int, dc_eq_fr, dc_eq_str, dc_ne_str, dc_lt, dc_le, dc_gt, dc_ge, dc_is, dc_isn, dBin, List.getElem?_cons_zero, List.getElem?_cons_succ, List.set_cons_zero, List.set_cons_succ, List.map_cons, List.map_nil, List.length_cons, List.length_nil, List.replicate, List.cons_append, List.nil_append, List.append_nil, Nat.reduceAdd, Nat.reduceSub, Nat.sub_self, Nat.reduceLeDiff, if_true, if_false, Bool.false_eq_true, reduceIte, Int.cast_ofNat_Int, eq_self, decide_true, decide_false, Bool.not_true, Bool.not_false, Bool.and_self, Bool.and_true, Bool.true_and, Bool.and_false, Bool.false_and, Bool.or_false, Bool.false_or, Bool.or_true, Bool.true_or, isi1, isi2, isi3, isi4, isi5, isi6, ok_int, deq_int, view_int, view_fr, view_str, ok_fr, eq_fr, view_tup, view_lst, ty_fr, tyN, List.any_cons, List.any_nil, atI_0, atI_1, atI_2, atI_3, atI_n, most, runB_rt, runB_nx, fin_same, e_is_action (N := N) (h := h) hj v hi]
theorem e_check_state (hK : 4 ≤ K) (v : Vs n m P W) {i : Nat} (hi : i < n) : cF tb N K "check_state" [setD P W, .int i] h = some (.non, h) := by
  obtain ⟨j, rfl, hj⟩ := dep hK
  rw [call_at lk_check_state (by rfl)]
  simp only [b_check_state, dSs, dS_expr, dS_ret, dS_retN, dS_asg, dS_par, dS_aug, dS_ite, dS_for, dS_wh, dS_pass, dS_brk, dS_cnt, dP, dPs, dI, dG, dGs, dGn_eq, dB, cSeq, cRet, cExpr, cAsg, cPar, setAll, cAug, augI, cIte, aVar, aC, tst, aTup, aLst, aBin, aNeg, aCmp, aChain, aNot, aIte, aIx, aO, aSl, dCut, aCall, aCallk, aBi, aMeth, aFin, aEl, aOT, aSeq, aRange1_eq, aEnum, aZip, wipeE, List.foldl_cons, List.foldl_nil, aCons, aStar, aAndV, aOrV, aAnd, aOr, aNotT, gNm, gTp, gNl, gCn, dIx, seqOf, lstOf, zsrc, dBI, dB1, dB2, Rz.fin, truth, dc_eq_int, dc_ne_int, dc_eq_fr, dc_eq_str, dc_ne_str, dc_lt, dc_le, dc_gt, dc_ge, dc_is, dc_isn, dBin, List.getElem?_cons_zero, List.getElem?_cons_succ, List.set_cons_zero, List.set_cons_succ, List.map_cons, List.map_nil, List.length_cons, List.length_nil, List.replicate, List.cons_append, List.nil_append, List.append_nil, Nat.reduceAdd, Nat.reduceSub, Nat.sub_self, Nat.reduceLeDiff, if_true, if_false, Bool.false_eq_true, reduceIte, Int.cast_ofNat_Int, eq_self, decide_true, decide_false, Bool.not_true, Bool.not_false, Bool.and_self, Bool.and_true, Bool.true_and, Bool.and_false, Bool.false_and, Bool.or_false, Bool.false_or, Bool.or_true, Bool.true_or, isi1, isi2, isi3, isi4, isi5, isi6, ok_int, deq_int, view_int, view_fr, view_str, ok_fr, eq_fr, view_tup, view_lst, ty_fr, tyN, List.any_cons, List.any_nil, atI_0, atI_1, atI_2, atI_3, atI_n, most, runB_rt, runB_nx, fin_same, e_is_state (N := N) (h := h) hj v hi]
theorem e_check_believed (hK : 7 ≤ K) (v : Vs n m P W) (vc : Ch n c) : cF tb N K "check_believed" [setD P W, rowD c] h = some (.non, h) := by
  obtain ⟨j, rfl, hj⟩ := dep hK
  rw [call_at lk_check_believed (by rfl)]
  simp only [b_check_believed, dSs, dS_expr, dS_ret, dS_retN, dS_asg, dS_par, dS_aug, dS_ite, dS_for, dS_wh, dS_pass, dS_brk, dS_cnt, dP, dPs, dI, dG, dGs, dGn_eq, dB, cSeq, cRet, cExpr, cAsg, cPar, setAll, cAug, augI, cIte, aVar, aC, tst, aTup, aLst, aBin, aNeg, aCmp, aChain, aNot, aIte, aIx, aO, aSl, dCut, aCall, aCallk, aBi, aMeth, aFin, aEl, aOT, aSeq, aRange1_eq, aEnum, aZip, wipeE, List.foldl_cons, List.foldl_nil, aCons, aStar, aAndV, aOrV, aAnd, aOr, aNotT, gNm, gTp, gNl, gCn, dIx, seqOf, lstOf, zsrc, dBI, dB1, dB2, Rz.fin, truth, dc_eq_int, dc_ne_int, dc_eq_fr, dc_eq_str, dc_ne_str, dc_lt, dc_le, dc_gt, dc_ge, dc_is, dc_isn, dBin, List.getElem?_cons_zero, List.getElem?_cons_succ, List.set_cons_zero, List.set_cons_succ, List.map_cons, List.map_nil, List.length_cons, List.length_nil, List.replicate, List.cons_append, List.nil_append, List.append_nil, Nat.reduceAdd, Nat.reduceSub, Nat.sub_self, Nat.reduceLeDiff, if_true, if_false, Bool.false_eq_true, reduceIte, Int.cast_ofNat_Int, eq_self, decide_true, decide_false, Bool.not_true, Bool.not_false, Bool.and_self, Bool.and_true, Bool.true_and, Bool.and_false, Bool.false_and, Bool.or_false, Bool.false_or, Bool.or_true, Bool.true_or, isi1, isi2, isi3, isi4, isi5, isi6, ok_int, deq_int, view_int, view_fr, view_str, ok_fr, eq_fr, view_tup, view_lst, ty_fr, tyN, List.any_cons, List.any_nil, atI_0, atI_1, atI_2, atI_3, atI_n, most, runB_rt, runB_nx, fin_same, e_check_setting (N := N) (h := h) hj v, e_check_belief (N := N) (h := h) hj v vc]
theorem e_check_taken (hK : 7 ≤ K) (v : Vs n m P W) (vc : Ch n c) {i : Nat} (hi : i < m) : cF tb N K "check_taken" [setD P W, .int i, rowD c] h = some (.non, h) := by
  obtain ⟨j, rfl, hj⟩ := dep hK
  rw [call_at lk_check_taken (by rfl)]
  simp only [b_check_taken, dSs, dS_expr, dS_ret, dS_retN, dS_asg, dS_par, dS_aug, dS_ite, dS_for, dS_wh, dS_pass, dS_brk, dS_cnt, dP, dPs, dI, dG, dGs, dGn_eq, dB, cSeq, cRet, cExpr, cAsg, cPar, setAll, cAug, augI, cIte, aVar, aC, tst, aTup, aLst, aBin, aNeg, aCmp, aChain, aNot, aIte, aIx, aO, aSl, dCut, aCall, aCallk, aBi, aMeth, aFin, aEl, aOT, aSeq, aRange1_eq, aEnum, aZip, wipeE, List.foldl_cons, List.foldl_nil, aCons, aStar, aAndV, aOrV, aAnd, aOr, aNotT, gNm, gTp, gNl, gCn, dIx, seqOf, lstOf, zsrc, dBI, dB1, dB2, Rz.fin, truth, dc_eq_int, dc_ne_int, dc_eq_fr, dc_eq_str, dc_ne_str, dc_lt, dc_le, dc_gt, dc_ge, dc_is, dc_isn, dBin, List.getElem?_cons_zero, List.getElem?_cons_succ, List.set_cons_zero, List.set_cons_succ, List.map_cons, List.map_nil, List.length_cons, List.length_nil, List.replicate, List.cons_append, List.nil_append, List.append_nil, Nat.reduceAdd, Nat.reduceSub, Nat.sub_self, Nat.reduceLeDiff, if_true, if_false, Bool.false_eq_true, reduceIte, Int.cast_ofNat_Int, eq_self, decide_true, decide_false, Bool.not_true, Bool.not_false, Bool.and_self, Bool.and_true, Bool.true_and, Bool.and_false, Bool.false_and, Bool.or_false, Bool.false_or, Bool.or_true, Bool.true_or, isi1, isi2, isi3, isi4, isi5, isi6, ok_int, deq_int, view_int, view_fr, view_str, ok_fr, eq_fr, view_tup, view_lst, ty_fr, tyN, List.any_cons, List.any_nil, atI_0, atI_1, atI_2, atI_3, atI_n, most, runB_rt, runB_nx, fin_same, e_check_setting (N := N) (h := h) hj v, e_check_belief (N := N) (h := h) hj v vc, e_check_action (N := N) (h := h) (K := j) (by omega) v hi]
theorem e_sure (hK : 7 ≤ K) (v : Vs n m P W) {i : Nat} (hi : i < n) : cF tb N K "sure" [setD P W, .int i] h = some (rowD (sureR n i), h) := by
  obtain ⟨j, rfl, hj⟩ := dep hK
  rw [call_at lk_sure (by rfl)]
  have := v.n4
  simp only [b_sure, dSs, dS_expr, dS_ret, dS_retN, dS_asg, dS_par, dS_aug, dS_ite, dS_for, dS_wh, dS_pass, dS_brk, dS_cnt, dP, dPs, dI, dG, dGs, dGn_eq, dB, cSeq, cRet, cExpr, cAsg, cPar, setAll, cAug, augI, cIte, aVar, aC, tst, aTup, aLst, aBin, aNeg, aCmp, aChain, aNot, aIte, aIx, aO, aSl, dCut, aCall, aCallk, aBi, aMeth, aFin, aEl, aOT, aSeq, aRange1_eq, aEnum, aZip, wipeE, List.foldl_cons, List.foldl_nil, aCons, aStar, aAndV, aOrV, aAnd, aOr, aNotT, gNm, gTp, gNl, gCn, dIx, seqOf, lstOf, zsrc, dBI, dB1, dB2, Rz.fin, truth, dc_eq_int, dc_ne_int, dc_eq_fr, dc_eq_str, dc_ne_str, dc_lt, dc_le, dc_gt, dc_ge, dc_is, dc_isn, dBin, List.getElem?_cons_zero, List.getElem?_cons_succ, List.set_cons_zero, List.set_cons_succ, List.map_cons, List.map_nil, List.length_cons, List.length_nil, List.replicate, List.cons_append, List.nil_append, List.append_nil, Nat.reduceAdd, Nat.reduceSub, Nat.sub_self, Nat.reduceLeDiff, if_true, if_false, Bool.false_eq_true, reduceIte, Int.cast_ofNat_Int, eq_self, decide_true, decide_false, Bool.not_true, Bool.not_false, Bool.and_self, Bool.and_true, Bool.true_and, Bool.and_false, Bool.false_and, Bool.or_false, Bool.false_or, Bool.or_true, Bool.true_or, isi1, isi2, isi3, isi4, isi5, isi6, ok_int, deq_int, view_int, view_fr, view_str, ok_fr, eq_fr, view_tup, view_lst, ty_fr, tyN, List.any_cons, List.any_nil, atI_0, atI_1, atI_2, atI_3, atI_n, most, runB_rt, runB_nx, fin_same, e_check_setting (N := N) (h := h) hj v, e_check_state (N := N) (h := h) (K := j) (by omega) v hi, e_many_states (N := N) (h := h) (K := j) (by omega) v, e_sure_by (N := N) (h := h) (K := j) (i := i) (n := n) (by omega) (by omega)]
theorem e_pay (hK : 8 ≤ K) (v : Vs n m P W) (vc : Ch n c) {a : Nat} (ha : a < m) : cF tb N K "pay" [setD P W, .int a, rowD c] h = some (fr (dotR (nth P a) c), h) := by
  obtain ⟨j, rfl, hj⟩ := dep hK
  rw [call_at lk_pay (by rfl)]
  obtain ⟨r, e1, e2, e3⟩ := at_tab v.p ha
  have hn4 := v.n4
  have e4 := e_dot (N := N) (h := h) (K := j) (by omega) (a := r) (b := c) (fun x hx => ((v.p.row r e2).2 x hx).mono (by decide)) (fun x hx => (vc.sz x hx).mono (by decide)) (by omega)
  have e5 := e_check_taken (N := N) (h := h) hj v vc ha
  rw [nth_at e1]
  try simp only [b_pay, dSs, dS_expr, dS_ret, dS_retN, dS_asg, dS_par, dS_aug, dS_ite, dS_for, dS_wh, dS_pass, dS_brk, dS_cnt, dP, dPs, dI, dG, dGs, dGn_eq, dB, cSeq, cRet, cExpr, cAsg, cPar, setAll, cAug, augI, cIte, aVar, aC, tst, aTup, aLst, aBin, aNeg, aCmp, aChain, aNot, aIte, aIx, aO, aSl, dCut, aCall, aCallk, aBi, aMeth, aFin, aEl, aOT, aSeq, aRange1_eq, aEnum, aZip, wipeE, List.foldl_cons, List.foldl_nil, aCons, aStar, aAndV, aOrV, aAnd, aOr, aNotT, gNm, gTp, gNl, gCn, dIx, seqOf, lstOf, zsrc, dBI, dB1, dB2, Rz.fin, truth, dc_eq_int, dc_ne_int, dc_eq_fr, dc_eq_str, dc_ne_str, dc_lt, dc_le, dc_gt, dc_ge, dc_is, dc_isn, dBin, List.getElem?_cons_zero, List.getElem?_cons_succ, List.set_cons_zero, List.set_cons_succ, List.map_cons, List.map_nil, List.length_cons, List.length_nil, List.replicate, List.cons_append, List.nil_append, List.append_nil, Nat.reduceAdd, Nat.reduceSub, Nat.sub_self, Nat.reduceLeDiff, if_true, if_false, Bool.false_eq_true, reduceIte, Int.cast_ofNat_Int, eq_self, decide_true, decide_false, Bool.not_true, Bool.not_false, Bool.and_self, Bool.and_true, Bool.true_and, Bool.and_false, Bool.false_and, Bool.or_false, Bool.false_or, Bool.or_true, Bool.true_or, isi1, isi2, isi3, isi4, isi5, isi6, ok_int, deq_int, view_int, view_fr, view_str, ok_fr, eq_fr, view_tup, view_lst, ty_fr, tyN, List.any_cons, List.any_nil, atI_0, atI_1, atI_2, atI_3, atI_n, most, runB_rt, runB_nx, fin_same, setD, tabD] at e5
  try simp only [b_pay, dSs, dS_expr, dS_ret, dS_retN, dS_asg, dS_par, dS_aug, dS_ite, dS_for, dS_wh, dS_pass, dS_brk, dS_cnt, dP, dPs, dI, dG, dGs, dGn_eq, dB, cSeq, cRet, cExpr, cAsg, cPar, setAll, cAug, augI, cIte, aVar, aC, tst, aTup, aLst, aBin, aNeg, aCmp, aChain, aNot, aIte, aIx, aO, aSl, dCut, aCall, aCallk, aBi, aMeth, aFin, aEl, aOT, aSeq, aRange1_eq, aEnum, aZip, wipeE, List.foldl_cons, List.foldl_nil, aCons, aStar, aAndV, aOrV, aAnd, aOr, aNotT, gNm, gTp, gNl, gCn, dIx, seqOf, lstOf, zsrc, dBI, dB1, dB2, Rz.fin, truth, dc_eq_int, dc_ne_int, dc_eq_fr, dc_eq_str, dc_ne_str, dc_lt, dc_le, dc_gt, dc_ge, dc_is, dc_isn, dBin, List.getElem?_cons_zero, List.getElem?_cons_succ, List.set_cons_zero, List.set_cons_succ, List.map_cons, List.map_nil, List.length_cons, List.length_nil, List.replicate, List.cons_append, List.nil_append, List.append_nil, Nat.reduceAdd, Nat.reduceSub, Nat.sub_self, Nat.reduceLeDiff, if_true, if_false, Bool.false_eq_true, reduceIte, Int.cast_ofNat_Int, eq_self, decide_true, decide_false, Bool.not_true, Bool.not_false, Bool.and_self, Bool.and_true, Bool.true_and, Bool.and_false, Bool.false_and, Bool.or_false, Bool.false_or, Bool.or_true, Bool.true_or, isi1, isi2, isi3, isi4, isi5, isi6, ok_int, deq_int, view_int, view_fr, view_str, ok_fr, eq_fr, view_tup, view_lst, ty_fr, tyN, List.any_cons, List.any_nil, atI_0, atI_1, atI_2, atI_3, atI_n, most, runB_rt, runB_nx, fin_same, setD, tabD]
  simp only [e5, dSs, dS_expr, dS_ret, dS_retN, dS_asg, dS_par, dS_aug, dS_ite, dS_for, dS_wh, dS_pass, dS_brk, dS_cnt, dP, dPs, dI, dG, dGs, dGn_eq, dB, cSeq, cRet, cExpr, cAsg, cPar, setAll, cAug, augI, cIte, aVar, aC, tst, aTup, aLst, aBin, aNeg, aCmp, aChain, aNot, aIte, aIx, aO, aSl, dCut, aCall, aCallk, aBi, aMeth, aFin, aEl, aOT, aSeq, aRange1_eq, aEnum, aZip, wipeE, List.foldl_cons, List.foldl_nil, aCons, aStar, aAndV, aOrV, aAnd, aOr, aNotT, gNm, gTp, gNl, gCn, dIx, seqOf, lstOf, zsrc, dBI, dB1, dB2, Rz.fin, truth, dc_eq_int, dc_ne_int, dc_eq_fr, dc_eq_str, dc_ne_str, dc_lt, dc_le, dc_gt, dc_ge, dc_is, dc_isn, dBin, List.getElem?_cons_zero, List.getElem?_cons_succ, List.set_cons_zero, List.set_cons_succ, List.map_cons, List.map_nil, List.length_cons, List.length_nil, List.replicate, List.cons_append, List.nil_append, List.append_nil, Nat.reduceAdd, Nat.reduceSub, Nat.sub_self, Nat.reduceLeDiff, if_true, if_false, Bool.false_eq_true, reduceIte, Int.cast_ofNat_Int, eq_self, decide_true, decide_false, Bool.not_true, Bool.not_false, Bool.and_self, Bool.and_true, Bool.true_and, Bool.and_false, Bool.false_and, Bool.or_false, Bool.false_or, Bool.or_true, Bool.true_or, isi1, isi2, isi3, isi4, isi5, isi6, ok_int, deq_int, view_int, view_fr, view_str, ok_fr, eq_fr, view_tup, view_lst, ty_fr, tyN, List.any_cons, List.any_nil, atI_0, atI_1, atI_2, atI_3, atI_n, most, runB_rt, runB_nx, fin_same, List.getElem?_map, e1, Option.map_some, e4]
theorem e_worth (hK : 8 ≤ K) (v : Vs n m P W) (vc : Ch n c) {a : Nat} (ha : a < m) : cF tb N K "worth" [setD P W, .int a, rowD c] h = some (fr (dotR (nth W a) c), h) := by
  obtain ⟨j, rfl, hj⟩ := dep hK
  rw [call_at lk_worth (by rfl)]
  simp only [b_worth, dSs, dS_expr, dS_ret, dS_retN, dS_asg, dS_par, dS_aug, dS_ite, dS_for, dS_wh, dS_pass, dS_brk, dS_cnt, dP, dPs, dI, dG, dGs, dGn_eq, dB, cSeq, cRet, cExpr, cAsg, cPar, setAll, cAug, augI, cIte, aVar, aC, tst, aTup, aLst, aBin, aNeg, aCmp, aChain, aNot, aIte, aIx, aO, aSl, dCut, aCall, aCallk, aBi, aMeth, aFin, aEl, aOT, aSeq, aRange1_eq, aEnum, aZip, wipeE, List.foldl_cons, List.foldl_nil, aCons, aStar, aAndV, aOrV, aAnd, aOr, aNotT, gNm, gTp, gNl, gCn, dIx, seqOf, lstOf, zsrc, dBI, dB1, dB2, Rz.fin, truth, dc_eq_int, dc_ne_int, dc_eq_fr, dc_eq_str, dc_ne_str, dc_lt, dc_le, dc_gt, dc_ge, dc_is, dc_isn, dBin, List.getElem?_cons_zero, List.getElem?_cons_succ, List.set_cons_zero, List.set_cons_succ, List.map_cons, List.map_nil, List.length_cons, List.length_nil, List.replicate, List.cons_append, List.nil_append, List.append_nil, Nat.reduceAdd, Nat.reduceSub, Nat.sub_self, Nat.reduceLeDiff, if_true, if_false, Bool.false_eq_true, reduceIte, Int.cast_ofNat_Int, eq_self, decide_true, decide_false, Bool.not_true, Bool.not_false, Bool.and_self, Bool.and_true, Bool.true_and, Bool.and_false, Bool.false_and, Bool.or_false, Bool.false_or, Bool.or_true, Bool.true_or, isi1, isi2, isi3, isi4, isi5, isi6, ok_int, deq_int, view_int, view_fr, view_str, ok_fr, eq_fr, view_tup, view_lst, ty_fr, tyN, List.any_cons, List.any_nil, atI_0, atI_1, atI_2, atI_3, atI_n, most, runB_rt, runB_nx, fin_same, e_check_taken (N := N) (h := h) hj v vc ha, e_worth_by (N := N) (h := h) (K := j) (by omega) v vc ha]
theorem e_best_actions (hK : 8 ≤ K) (v : Vs n m P W) (vc : Ch n c) : cF tb N K "best_actions" [setD P W, rowD c] h = some (.tup ((bestN (sums P c)).map fun i => .int (i : Nat)), h) := by
  obtain ⟨j, rfl, hj⟩ := dep hK
  rw [call_at lk_best_actions (by rfl)]
  simp only [b_best_actions, dSs, dS_expr, dS_ret, dS_retN, dS_asg, dS_par, dS_aug, dS_ite, dS_for, dS_wh, dS_pass, dS_brk, dS_cnt, dP, dPs, dI, dG, dGs, dGn_eq, dB, cSeq, cRet, cExpr, cAsg, cPar, setAll, cAug, augI, cIte, aVar, aC, tst, aTup, aLst, aBin, aNeg, aCmp, aChain, aNot, aIte, aIx, aO, aSl, dCut, aCall, aCallk, aBi, aMeth, aFin, aEl, aOT, aSeq, aRange1_eq, aEnum, aZip, wipeE, List.foldl_cons, List.foldl_nil, aCons, aStar, aAndV, aOrV, aAnd, aOr, aNotT, gNm, gTp, gNl, gCn, dIx, seqOf, lstOf, zsrc, dBI, dB1, dB2, Rz.fin, truth, dc_eq_int, dc_ne_int, dc_eq_fr, dc_eq_str, dc_ne_str, dc_lt, dc_le, dc_gt, dc_ge, dc_is, dc_isn, dBin, List.getElem?_cons_zero, List.getElem?_cons_succ, List.set_cons_zero, List.set_cons_succ, List.map_cons, List.map_nil, List.length_cons, List.length_nil, List.replicate, List.cons_append, List.nil_append, List.append_nil, Nat.reduceAdd, Nat.reduceSub, Nat.sub_self, Nat.reduceLeDiff, if_true, if_false, Bool.false_eq_true, reduceIte, Int.cast_ofNat_Int, eq_self, decide_true, decide_false, Bool.not_true, Bool.not_false, Bool.and_self, Bool.and_true, Bool.true_and, Bool.and_false, Bool.false_and, Bool.or_false, Bool.false_or, Bool.or_true, Bool.true_or, isi1, isi2, isi3, isi4, isi5, isi6, ok_int, deq_int, view_int, view_fr, view_str, ok_fr, eq_fr, view_tup, view_lst, ty_fr, tyN, List.any_cons, List.any_nil, atI_0, atI_1, atI_2, atI_3, atI_n, most, runB_rt, runB_nx, fin_same, e_check_believed (N := N) (h := h) hj v vc, e_best_by (N := N) (h := h) (K := j) (by omega) v vc]
theorem e_choice (hK : 8 ≤ K) (v : Vs n m P W) (vc : Ch n c) : ∃ a r, choiceN P W c = a :: r ∧ cF tb N K "choice" [setD P W, rowD c] h = some (.int (a : Nat), h) := by
  obtain ⟨j, rfl, hj⟩ := dep hK
  obtain ⟨a, r, e0, e1⟩ := e_choice_by (N := N) (h := h) hj v vc
  refine ⟨a, r, e0, ?_⟩
  rw [call_at lk_choice (by rfl)]
  simp only [b_choice, dSs, dS_expr, dS_ret, dS_retN, dS_asg, dS_par, dS_aug, dS_ite, dS_for, dS_wh, dS_pass, dS_brk, dS_cnt, dP, dPs, dI, dG, dGs, dGn_eq, dB, cSeq, cRet, cExpr, cAsg, cPar, setAll, cAug, augI, cIte, aVar, aC, tst, aTup, aLst, aBin, aNeg, aCmp, aChain, aNot, aIte, aIx, aO, aSl, dCut, aCall, aCallk, aBi, aMeth, aFin, aEl, aOT, aSeq, aRange1_eq, aEnum, aZip, wipeE, List.foldl_cons, List.foldl_nil, aCons, aStar, aAndV, aOrV, aAnd, aOr, aNotT, gNm, gTp, gNl, gCn, dIx, seqOf, lstOf, zsrc, dBI, dB1, dB2, Rz.fin, truth, dc_eq_int, dc_ne_int, dc_eq_fr, dc_eq_str, dc_ne_str, dc_lt, dc_le, dc_gt, dc_ge, dc_is, dc_isn, dBin, List.getElem?_cons_zero, List.getElem?_cons_succ, List.set_cons_zero, List.set_cons_succ, List.map_cons, List.map_nil, List.length_cons, List.length_nil, List.replicate, List.cons_append, List.nil_append, List.append_nil, Nat.reduceAdd, Nat.reduceSub, Nat.sub_self, Nat.reduceLeDiff, if_true, if_false, Bool.false_eq_true, reduceIte, Int.cast_ofNat_Int, eq_self, decide_true, decide_false, Bool.not_true, Bool.not_false, Bool.and_self, Bool.and_true, Bool.true_and, Bool.and_false, Bool.false_and, Bool.or_false, Bool.false_or, Bool.or_true, Bool.true_or, isi1, isi2, isi3, isi4, isi5, isi6, ok_int, deq_int, view_int, view_fr, view_str, ok_fr, eq_fr, view_tup, view_lst, ty_fr, tyN, List.any_cons, List.any_nil, atI_0, atI_1, atI_2, atI_3, atI_n, most, runB_rt, runB_nx, fin_same, e_check_believed (N := N) (h := h) hj v vc, e1]
theorem e_value (hK : 8 ≤ K) (v : Vs n m P W) (vc : Ch n c) : cF tb N K "value" [setD P W, rowD c] h = some (fr (mx (wsR P W c)), h) := by
  obtain ⟨j, rfl, hj⟩ := dep hK
  rw [call_at lk_value (by rfl)]
  simp only [b_value, dSs, dS_expr, dS_ret, dS_retN, dS_asg, dS_par, dS_aug, dS_ite, dS_for, dS_wh, dS_pass, dS_brk, dS_cnt, dP, dPs, dI, dG, dGs, dGn_eq, dB, cSeq, cRet, cExpr, cAsg, cPar, setAll, cAug, augI, cIte, aVar, aC, tst, aTup, aLst, aBin, aNeg, aCmp, aChain, aNot, aIte, aIx, aO, aSl, dCut, aCall, aCallk, aBi, aMeth, aFin, aEl, aOT, aSeq, aRange1_eq, aEnum, aZip, wipeE, List.foldl_cons, List.foldl_nil, aCons, aStar, aAndV, aOrV, aAnd, aOr, aNotT, gNm, gTp, gNl, gCn, dIx, seqOf, lstOf, zsrc, dBI, dB1, dB2, Rz.fin, truth, dc_eq_int, dc_ne_int, dc_eq_fr, dc_eq_str, dc_ne_str, dc_lt, dc_le, dc_gt, dc_ge, dc_is, dc_isn, dBin, List.getElem?_cons_zero, List.getElem?_cons_succ, List.set_cons_zero, List.set_cons_succ, List.map_cons, List.map_nil, List.length_cons, List.length_nil, List.replicate, List.cons_append, List.nil_append, List.append_nil, Nat.reduceAdd, Nat.reduceSub, Nat.sub_self, Nat.reduceLeDiff, if_true, if_false, Bool.false_eq_true, reduceIte, Int.cast_ofNat_Int, eq_self, decide_true, decide_false, Bool.not_true, Bool.not_false, Bool.and_self, Bool.and_true, Bool.true_and, Bool.and_false, Bool.false_and, Bool.or_false, Bool.false_or, Bool.or_true, Bool.true_or, isi1, isi2, isi3, isi4, isi5, isi6, ok_int, deq_int, view_int, view_fr, view_str, ok_fr, eq_fr, view_tup, view_lst, ty_fr, tyN, List.any_cons, List.any_nil, atI_0, atI_1, atI_2, atI_3, atI_n, most, runB_rt, runB_nx, fin_same, e_check_believed (N := N) (h := h) hj v vc, e_value_by (N := N) (h := h) (K := j) (by omega) v vc]
end Row
namespace Row
open PySem PySem.Spec PyProof.Rows L2 Ev
variable {N K : Nat} {h : AH} {P W : List (List Rat)} {n m : Nat} {c : List Rat}
/-! ### the law's own fractions -/
theorem abs_nat {a : Int} : (if a < 0 then -a else a) = (a.natAbs : Int) := by
  by_cases z : a < 0
  · rw [if_pos z]; omega
  · rw [if_neg z]; omega
theorem loop_lean {j k : Nat} {x y : D} (a r b : Nat) (hr : r < 2 ^ b) (hk : 2 * b + 1 ≤ k) :
    whN (cF tb N j) N (.cmp .gt (.var 3) (.int 0)) b__law_lean_1 k [some x, some y, some (.int (a : Nat)), some (.int (r : Nat))] h = some (.nx [some x, some y, some (.int (Nat.gcd a r : Nat)), some (.int (0 : Nat))] h) := by
  refine euclid (st := fun a r => [some x, some y, some (.int (a : Nat)), some (.int (r : Nat))]) (fun a => ?_) (fun a r hp => ⟨?_, ?_⟩) b k a r hr hk
  · simp only [dSs, dS_expr, dS_ret, dS_retN, dS_asg, dS_par, dS_aug, dS_ite, dS_for, dS_wh, dS_pass, dS_brk, dS_cnt, dP, dPs, dI, dG, dGs, dGn_eq, dB, cSeq, cRet, cExpr, cAsg, cPar, setAll, cAug, augI, cIte, aVar, aC, tst, aTup, aLst, aBin, aNeg, aCmp, aChain, aNot, aIte, aIx, aO, aSl, dCut, aCall, aCallk, aBi, aMeth, aFin, aEl, aOT, aSeq, aRange1_eq, aEnum, aZip, wipeE, List.foldl_cons, List.foldl_nil, aCons, aStar, aAndV, aOrV, aAnd, aOr, aNotT, gNm, gTp, gNl, gCn, dIx, seqOf, lstOf, zsrc, dBI, dB1, dB2, Rz.fin, truth, dc_eq_int, dc_ne_int, dc_eq_fr, dc_eq_str, dc_ne_str, dc_lt, dc_le, dc_gt, dc_ge, dc_is, dc_isn, dBin, List.getElem?_cons_zero, List.getElem?_cons_succ, List.set_cons_zero, List.set_cons_succ, List.map_cons, List.map_nil, List.length_cons, List.length_nil, List.replicate, List.cons_append, List.nil_append, List.append_nil, Nat.reduceAdd, Nat.reduceSub, Nat.sub_self, Nat.reduceLeDiff, if_true, if_false, Bool.false_eq_true, reduceIte, Int.cast_ofNat_Int, eq_self, decide_true, decide_false, Bool.not_true, Bool.not_false, Bool.and_self, Bool.and_true, Bool.true_and, Bool.and_false, Bool.false_and, Bool.or_false, Bool.false_or, Bool.or_true, Bool.true_or, isi1, isi2, isi3, isi4, isi5, isi6, ok_int, deq_int, view_int, view_fr, view_str, ok_fr, eq_fr, view_tup, view_lst, ty_fr, tyN, List.any_cons, List.any_nil, atI_0, atI_1, atI_2, atI_3, atI_n, most, runB_rt, runB_nx, fin_same, Int.lt_irrefl]
  · have z : (0 : Int) < (r : Int) := by omega
    simp only [dSs, dS_expr, dS_ret, dS_retN, dS_asg, dS_par, dS_aug, dS_ite, dS_for, dS_wh, dS_pass, dS_brk, dS_cnt, dP, dPs, dI, dG, dGs, dGn_eq, dB, cSeq, cRet, cExpr, cAsg, cPar, setAll, cAug, augI, cIte, aVar, aC, tst, aTup, aLst, aBin, aNeg, aCmp, aChain, aNot, aIte, aIx, aO, aSl, dCut, aCall, aCallk, aBi, aMeth, aFin, aEl, aOT, aSeq, aRange1_eq, aEnum, aZip, wipeE, List.foldl_cons, List.foldl_nil, aCons, aStar, aAndV, aOrV, aAnd, aOr, aNotT, gNm, gTp, gNl, gCn, dIx, seqOf, lstOf, zsrc, dBI, dB1, dB2, Rz.fin, truth, dc_eq_int, dc_ne_int, dc_eq_fr, dc_eq_str, dc_ne_str, dc_lt, dc_le, dc_gt, dc_ge, dc_is, dc_isn, dBin, List.getElem?_cons_zero, List.getElem?_cons_succ, List.set_cons_zero, List.set_cons_succ, List.map_cons, List.map_nil, List.length_cons, List.length_nil, List.replicate, List.cons_append, List.nil_append, List.append_nil, Nat.reduceAdd, Nat.reduceSub, Nat.sub_self, Nat.reduceLeDiff, if_true, if_false, Bool.false_eq_true, reduceIte, Int.cast_ofNat_Int, eq_self, decide_true, decide_false, Bool.not_true, Bool.not_false, Bool.and_self, Bool.and_true, Bool.true_and, Bool.and_false, Bool.false_and, Bool.or_false, Bool.false_or, Bool.or_true, Bool.true_or, isi1, isi2, isi3, isi4, isi5, isi6, ok_int, deq_int, view_int, view_fr, view_str, ok_fr, eq_fr, view_tup, view_lst, ty_fr, tyN, List.any_cons, List.any_nil, atI_0, atI_1, atI_2, atI_3, atI_n, most, runB_rt, runB_nx, fin_same, z]
  · have z : (r : Int) ≠ 0 := by omega
    simp only [b__law_lean_1, dSs, dS_expr, dS_ret, dS_retN, dS_asg, dS_par, dS_aug, dS_ite, dS_for, dS_wh, dS_pass, dS_brk, dS_cnt, dP, dPs, dI, dG, dGs, dGn_eq, dB, cSeq, cRet, cExpr, cAsg, cPar, setAll, cAug, augI, cIte, aVar, aC, tst, aTup, aLst, aBin, aNeg, aCmp, aChain, aNot, aIte, aIx, aO, aSl, dCut, aCall, aCallk, aBi, aMeth, aFin, aEl, aOT, aSeq, aRange1_eq, aEnum, aZip, wipeE, List.foldl_cons, List.foldl_nil, aCons, aStar, aAndV, aOrV, aAnd, aOr, aNotT, gNm, gTp, gNl, gCn, dIx, seqOf, lstOf, zsrc, dBI, dB1, dB2, Rz.fin, truth, dc_eq_int, dc_ne_int, dc_eq_fr, dc_eq_str, dc_ne_str, dc_lt, dc_le, dc_gt, dc_ge, dc_is, dc_isn, dBin, List.getElem?_cons_zero, List.getElem?_cons_succ, List.set_cons_zero, List.set_cons_succ, List.map_cons, List.map_nil, List.length_cons, List.length_nil, List.replicate, List.cons_append, List.nil_append, List.append_nil, Nat.reduceAdd, Nat.reduceSub, Nat.sub_self, Nat.reduceLeDiff, if_true, if_false, Bool.false_eq_true, reduceIte, Int.cast_ofNat_Int, eq_self, decide_true, decide_false, Bool.not_true, Bool.not_false, Bool.and_self, Bool.and_true, Bool.true_and, Bool.and_false, Bool.false_and, Bool.or_false, Bool.false_or, Bool.or_true, Bool.true_or, isi1, isi2, isi3, isi4, isi5, isi6, ok_int, deq_int, view_int, view_fr, view_str, ok_fr, eq_fr, view_tup, view_lst, ty_fr, tyN, List.any_cons, List.any_nil, atI_0, atI_1, atI_2, atI_3, atI_n, most, runB_rt, runB_nx, fin_same, z, ne_eq, not_false_eq_true, fmod_nat, List.zip_cons_cons, List.zip_nil_left, List.zip_nil_right]
theorem e_lean (hK : 1 ≤ K) (hN : 1000000 ≤ N) {a b : Int} (hb : 0 < b) (sz : b.natAbs < 2 ^ 400000) : cF tb N K "_law_lean" [.int a, .int b] h = some (fr (mkRat a b.toNat), h) := by
  obtain ⟨j, rfl, hj⟩ := dep hK
  rw [call_at lk__law_lean (by rfl), fr_mk hb]
  have lp := loop_lean (N := N) (h := h) (j := j) (k := N) (x := .int a) (y := .int b) a.natAbs b.natAbs 400000 sz (by omega)
  have hg : ((Nat.gcd a.natAbs b.natAbs : Nat) : Int) ≠ 0 := by
    have : 0 < Nat.gcd a.natAbs b.natAbs := Nat.gcd_pos_of_pos_right _ (by omega)
    omega
  generalize (Nat.gcd a.natAbs b.natAbs : Nat) = g at lp hg ⊢
  simp only [b__law_lean, dSs, dS_expr, dS_ret, dS_retN, dS_asg, dS_par, dS_aug, dS_ite, dS_for, dS_wh, dS_pass, dS_brk, dS_cnt, dP, dPs, dI, dG, dGs, dGn_eq, dB, cSeq, cRet, cExpr, cAsg, cPar, setAll, cAug, augI, cIte, aVar, aC, tst, aTup, aLst, aBin, aNeg, aCmp, aChain, aNot, aIte, aIx, aO, aSl, dCut, aCall, aCallk, aBi, aMeth, aFin, aEl, aOT, aSeq, aRange1_eq, aEnum, aZip, wipeE, List.foldl_cons, List.foldl_nil, aCons, aStar, aAndV, aOrV, aAnd, aOr, aNotT, gNm, gTp, gNl, gCn, dIx, seqOf, lstOf, zsrc, dBI, dB1, dB2, Rz.fin, truth, dc_eq_int, dc_ne_int, dc_eq_fr, dc_eq_str, dc_ne_str, dc_lt, dc_le, dc_gt, dc_ge, dc_is, dc_isn, dBin, List.getElem?_cons_zero, List.getElem?_cons_succ, List.set_cons_zero, List.set_cons_succ, List.map_cons, List.map_nil, List.length_cons, List.length_nil, List.replicate, List.cons_append, List.nil_append, List.append_nil, Nat.reduceAdd, Nat.reduceSub, Nat.sub_self, Nat.reduceLeDiff, if_true, if_false, Bool.false_eq_true, reduceIte, Int.cast_ofNat_Int, eq_self, decide_true, decide_false, Bool.not_true, Bool.not_false, Bool.and_self, Bool.and_true, Bool.true_and, Bool.and_false, Bool.false_and, Bool.or_false, Bool.false_or, Bool.or_true, Bool.true_or, isi1, isi2, isi3, isi4, isi5, isi6, ok_int, deq_int, view_int, view_fr, view_str, ok_fr, eq_fr, view_tup, view_lst, ty_fr, tyN, List.any_cons, List.any_nil, atI_0, atI_1, atI_2, atI_3, atI_n, most, runB_rt, runB_nx, fin_same, abs_nat, List.zip_cons_cons, List.zip_nil_left, List.zip_nil_right, lp, hb, hg, ne_eq, not_false_eq_true]
theorem e_leanN (hK : 1 ≤ K) (hN : 1000000 ≤ N) {a b : Int} (hb : b < 0) (sz : b.natAbs < 2 ^ 400000) : cF tb N K "_law_lean" [.int a, .int b] h = some (fr (mkRat (-a) (-b).toNat), h) := by
  obtain ⟨j, rfl, hj⟩ := dep hK
  rw [call_at lk__law_lean (by rfl), fr_mk (by omega), Int.natAbs_neg, Int.natAbs_neg]
  have lp := loop_lean (N := N) (h := h) (j := j) (k := N) (x := .int a) (y := .int b) a.natAbs b.natAbs 400000 sz (by omega)
  have hg : ((Nat.gcd a.natAbs b.natAbs : Nat) : Int) ≠ 0 := by
    have : 0 < Nat.gcd a.natAbs b.natAbs := Nat.gcd_pos_of_pos_right _ (by omega)
    omega
  generalize (Nat.gcd a.natAbs b.natAbs : Nat) = g at lp hg ⊢
  have hn : ¬ 0 < b := by omega
  have hg2 : (0 : Int) - (g : Int) ≠ 0 := by omega
  have f1 : a.fdiv (0 - (g : Int)) = (-a).fdiv g := by rw [← Int.neg_fdiv_neg, show -(0 - (g : Int)) = g by omega]
  have f2 : b.fdiv (0 - (g : Int)) = (-b).fdiv g := by rw [← Int.neg_fdiv_neg, show -(0 - (g : Int)) = g by omega]
  simp only [b__law_lean, dSs, dS_expr, dS_ret, dS_retN, dS_asg, dS_par, dS_aug, dS_ite, dS_for, dS_wh, dS_pass, dS_brk, dS_cnt, dP, dPs, dI, dG, dGs, dGn_eq, dB, cSeq, cRet, cExpr, cAsg, cPar, setAll, cAug, augI, cIte, aVar, aC, tst, aTup, aLst, aBin, aNeg, aCmp, aChain, aNot, aIte, aIx, aO, aSl, dCut, aCall, aCallk, aBi, aMeth, aFin, aEl, aOT, aSeq, aRange1_eq, aEnum, aZip, wipeE, List.foldl_cons, List.foldl_nil, aCons, aStar, aAndV, aOrV, aAnd, aOr, aNotT, gNm, gTp, gNl, gCn, dIx, seqOf, lstOf, zsrc, dBI, dB1, dB2, Rz.fin, truth, dc_eq_int, dc_ne_int, dc_eq_fr, dc_eq_str, dc_ne_str, dc_lt, dc_le, dc_gt, dc_ge, dc_is, dc_isn, dBin, List.getElem?_cons_zero, List.getElem?_cons_succ, List.set_cons_zero, List.set_cons_succ, List.map_cons, List.map_nil, List.length_cons, List.length_nil, List.replicate, List.cons_append, List.nil_append, List.append_nil, Nat.reduceAdd, Nat.reduceSub, Nat.sub_self, Nat.reduceLeDiff, if_true, if_false, Bool.false_eq_true, reduceIte, Int.cast_ofNat_Int, eq_self, decide_true, decide_false, Bool.not_true, Bool.not_false, Bool.and_self, Bool.and_true, Bool.true_and, Bool.and_false, Bool.false_and, Bool.or_false, Bool.false_or, Bool.or_true, Bool.true_or, isi1, isi2, isi3, isi4, isi5, isi6, ok_int, deq_int, view_int, view_fr, view_str, ok_fr, eq_fr, view_tup, view_lst, ty_fr, tyN, List.any_cons, List.any_nil, atI_0, atI_1, atI_2, atI_3, atI_n, most, runB_rt, runB_nx, fin_same, abs_nat, List.zip_cons_cons, List.zip_nil_left, List.zip_nil_right, lp, hn, hg2, ne_eq, not_false_eq_true, f1, f2]
theorem sz_dd {x y : Rat} {b : Nat} (hx : Sz b x) (hy : Sz b y) (l : b + b ≤ 400000) : ((x.den : Int) * y.den).natAbs < 2 ^ 400000 := by
  rw [Int.natAbs_mul, Int.natAbs_natCast, Int.natAbs_natCast]
  have p : x.den * y.den < 2 ^ b * 2 ^ b := Nat.mul_lt_mul'' hx.2 hy.2
  rw [← Nat.pow_add] at p
  exact Nat.lt_of_lt_of_le p (Nat.pow_le_pow_right (by decide) l)
theorem med_big {x : Rat} (h : Sz med x) : Sz big x := h.mono (by decide)
theorem l_plus (hK : 2 ≤ K) (hN : 1000000 ≤ N) {x y : Rat} (hx : Sz med x) (hy : Sz med y) : cF tb N K "_law_plus" [fr x, fr y] h = some (fr (x + y), h) := by
  obtain ⟨j, rfl, hj⟩ := dep hK
  rw [call_at lk__law_plus (by rfl)]
  have e1 := e_lean (N := N) (h := h) hj hN (a := x.num * y.den + y.num * x.den) (Int.mul_pos (den_pos x) (den_pos y)) (sz_dd hx hy (by decide))
  rw [fr_add] at e1
  try simp only [b__law_plus, dSs, dS_expr, dS_ret, dS_retN, dS_asg, dS_par, dS_aug, dS_ite, dS_for, dS_wh, dS_pass, dS_brk, dS_cnt, dP, dPs, dI, dG, dGs, dGn_eq, dB, cSeq, cRet, cExpr, cAsg, cPar, setAll, cAug, augI, cIte, aVar, aC, tst, aTup, aLst, aBin, aNeg, aCmp, aChain, aNot, aIte, aIx, aO, aSl, dCut, aCall, aCallk, aBi, aMeth, aFin, aEl, aOT, aSeq, aRange1_eq, aEnum, aZip, wipeE, List.foldl_cons, List.foldl_nil, aCons, aStar, aAndV, aOrV, aAnd, aOr, aNotT, gNm, gTp, gNl, gCn, dIx, seqOf, lstOf, zsrc, dBI, dB1, dB2, Rz.fin, truth, dc_eq_int, dc_ne_int, dc_eq_fr, dc_eq_str, dc_ne_str, dc_lt, dc_le, dc_gt, dc_ge, dc_is, dc_isn, dBin, List.getElem?_cons_zero, List.getElem?_cons_succ, List.set_cons_zero, List.set_cons_succ, List.map_cons, List.map_nil, List.length_cons, List.length_nil, List.replicate, List.cons_append, List.nil_append, List.append_nil, Nat.reduceAdd, Nat.reduceSub, Nat.sub_self, Nat.reduceLeDiff, if_true, if_false, Bool.false_eq_true, reduceIte, Int.cast_ofNat_Int, eq_self, decide_true, decide_false, Bool.not_true, Bool.not_false, Bool.and_self, Bool.and_true, Bool.true_and, Bool.and_false, Bool.false_and, Bool.or_false, Bool.false_or, Bool.or_true, Bool.true_or, isi1, isi2, isi3, isi4, isi5, isi6, ok_int, deq_int, view_int, view_fr, view_str, ok_fr, eq_fr, view_tup, view_lst, ty_fr, tyN, List.any_cons, List.any_nil, atI_0, atI_1, atI_2, atI_3, atI_n, most, runB_rt, runB_nx, fin_same, fr, mul_nd (med_big hx) (med_big hy), mul_nd (med_big hy) (med_big hx), mul_dd (med_big hx) (med_big hy)] at e1
  try simp only [b__law_plus, dSs, dS_expr, dS_ret, dS_retN, dS_asg, dS_par, dS_aug, dS_ite, dS_for, dS_wh, dS_pass, dS_brk, dS_cnt, dP, dPs, dI, dG, dGs, dGn_eq, dB, cSeq, cRet, cExpr, cAsg, cPar, setAll, cAug, augI, cIte, aVar, aC, tst, aTup, aLst, aBin, aNeg, aCmp, aChain, aNot, aIte, aIx, aO, aSl, dCut, aCall, aCallk, aBi, aMeth, aFin, aEl, aOT, aSeq, aRange1_eq, aEnum, aZip, wipeE, List.foldl_cons, List.foldl_nil, aCons, aStar, aAndV, aOrV, aAnd, aOr, aNotT, gNm, gTp, gNl, gCn, dIx, seqOf, lstOf, zsrc, dBI, dB1, dB2, Rz.fin, truth, dc_eq_int, dc_ne_int, dc_eq_fr, dc_eq_str, dc_ne_str, dc_lt, dc_le, dc_gt, dc_ge, dc_is, dc_isn, dBin, List.getElem?_cons_zero, List.getElem?_cons_succ, List.set_cons_zero, List.set_cons_succ, List.map_cons, List.map_nil, List.length_cons, List.length_nil, List.replicate, List.cons_append, List.nil_append, List.append_nil, Nat.reduceAdd, Nat.reduceSub, Nat.sub_self, Nat.reduceLeDiff, if_true, if_false, Bool.false_eq_true, reduceIte, Int.cast_ofNat_Int, eq_self, decide_true, decide_false, Bool.not_true, Bool.not_false, Bool.and_self, Bool.and_true, Bool.true_and, Bool.and_false, Bool.false_and, Bool.or_false, Bool.false_or, Bool.or_true, Bool.true_or, isi1, isi2, isi3, isi4, isi5, isi6, ok_int, deq_int, view_int, view_fr, view_str, ok_fr, eq_fr, view_tup, view_lst, ty_fr, tyN, List.any_cons, List.any_nil, atI_0, atI_1, atI_2, atI_3, atI_n, most, runB_rt, runB_nx, fin_same, fr, mul_nd (med_big hx) (med_big hy), mul_nd (med_big hy) (med_big hx), mul_dd (med_big hx) (med_big hy)]
  simp only [e1, dSs, dS_expr, dS_ret, dS_retN, dS_asg, dS_par, dS_aug, dS_ite, dS_for, dS_wh, dS_pass, dS_brk, dS_cnt, dP, dPs, dI, dG, dGs, dGn_eq, dB, cSeq, cRet, cExpr, cAsg, cPar, setAll, cAug, augI, cIte, aVar, aC, tst, aTup, aLst, aBin, aNeg, aCmp, aChain, aNot, aIte, aIx, aO, aSl, dCut, aCall, aCallk, aBi, aMeth, aFin, aEl, aOT, aSeq, aRange1_eq, aEnum, aZip, wipeE, List.foldl_cons, List.foldl_nil, aCons, aStar, aAndV, aOrV, aAnd, aOr, aNotT, gNm, gTp, gNl, gCn, dIx, seqOf, lstOf, zsrc, dBI, dB1, dB2, Rz.fin, truth, dc_eq_int, dc_ne_int, dc_eq_fr, dc_eq_str, dc_ne_str, dc_lt, dc_le, dc_gt, dc_ge, dc_is, dc_isn, dBin, List.getElem?_cons_zero, List.getElem?_cons_succ, List.set_cons_zero, List.set_cons_succ, List.map_cons, List.map_nil, List.length_cons, List.length_nil, List.replicate, List.cons_append, List.nil_append, List.append_nil, Nat.reduceAdd, Nat.reduceSub, Nat.sub_self, Nat.reduceLeDiff, if_true, if_false, Bool.false_eq_true, reduceIte, Int.cast_ofNat_Int, eq_self, decide_true, decide_false, Bool.not_true, Bool.not_false, Bool.and_self, Bool.and_true, Bool.true_and, Bool.and_false, Bool.false_and, Bool.or_false, Bool.false_or, Bool.or_true, Bool.true_or, isi1, isi2, isi3, isi4, isi5, isi6, ok_int, deq_int, view_int, view_fr, view_str, ok_fr, eq_fr, view_tup, view_lst, ty_fr, tyN, List.any_cons, List.any_nil, atI_0, atI_1, atI_2, atI_3, atI_n, most, runB_rt, runB_nx, fin_same]
theorem l_minus (hK : 2 ≤ K) (hN : 1000000 ≤ N) {x y : Rat} (hx : Sz med x) (hy : Sz med y) : cF tb N K "_law_minus" [fr x, fr y] h = some (fr (x - y), h) := by
  obtain ⟨j, rfl, hj⟩ := dep hK
  rw [call_at lk__law_minus (by rfl)]
  have e1 := e_lean (N := N) (h := h) hj hN (a := x.num * y.den - y.num * x.den) (Int.mul_pos (den_pos x) (den_pos y)) (sz_dd hx hy (by decide))
  rw [fr_sub] at e1
  try simp only [b__law_minus, dSs, dS_expr, dS_ret, dS_retN, dS_asg, dS_par, dS_aug, dS_ite, dS_for, dS_wh, dS_pass, dS_brk, dS_cnt, dP, dPs, dI, dG, dGs, dGn_eq, dB, cSeq, cRet, cExpr, cAsg, cPar, setAll, cAug, augI, cIte, aVar, aC, tst, aTup, aLst, aBin, aNeg, aCmp, aChain, aNot, aIte, aIx, aO, aSl, dCut, aCall, aCallk, aBi, aMeth, aFin, aEl, aOT, aSeq, aRange1_eq, aEnum, aZip, wipeE, List.foldl_cons, List.foldl_nil, aCons, aStar, aAndV, aOrV, aAnd, aOr, aNotT, gNm, gTp, gNl, gCn, dIx, seqOf, lstOf, zsrc, dBI, dB1, dB2, Rz.fin, truth, dc_eq_int, dc_ne_int, dc_eq_fr, dc_eq_str, dc_ne_str, dc_lt, dc_le, dc_gt, dc_ge, dc_is, dc_isn, dBin, List.getElem?_cons_zero, List.getElem?_cons_succ, List.set_cons_zero, List.set_cons_succ, List.map_cons, List.map_nil, List.length_cons, List.length_nil, List.replicate, List.cons_append, List.nil_append, List.append_nil, Nat.reduceAdd, Nat.reduceSub, Nat.sub_self, Nat.reduceLeDiff, if_true, if_false, Bool.false_eq_true, reduceIte, Int.cast_ofNat_Int, eq_self, decide_true, decide_false, Bool.not_true, Bool.not_false, Bool.and_self, Bool.and_true, Bool.true_and, Bool.and_false, Bool.false_and, Bool.or_false, Bool.false_or, Bool.or_true, Bool.true_or, isi1, isi2, isi3, isi4, isi5, isi6, ok_int, deq_int, view_int, view_fr, view_str, ok_fr, eq_fr, view_tup, view_lst, ty_fr, tyN, List.any_cons, List.any_nil, atI_0, atI_1, atI_2, atI_3, atI_n, most, runB_rt, runB_nx, fin_same, fr, mul_nd (med_big hx) (med_big hy), mul_nd (med_big hy) (med_big hx), mul_dd (med_big hx) (med_big hy)] at e1
  try simp only [b__law_minus, dSs, dS_expr, dS_ret, dS_retN, dS_asg, dS_par, dS_aug, dS_ite, dS_for, dS_wh, dS_pass, dS_brk, dS_cnt, dP, dPs, dI, dG, dGs, dGn_eq, dB, cSeq, cRet, cExpr, cAsg, cPar, setAll, cAug, augI, cIte, aVar, aC, tst, aTup, aLst, aBin, aNeg, aCmp, aChain, aNot, aIte, aIx, aO, aSl, dCut, aCall, aCallk, aBi, aMeth, aFin, aEl, aOT, aSeq, aRange1_eq, aEnum, aZip, wipeE, List.foldl_cons, List.foldl_nil, aCons, aStar, aAndV, aOrV, aAnd, aOr, aNotT, gNm, gTp, gNl, gCn, dIx, seqOf, lstOf, zsrc, dBI, dB1, dB2, Rz.fin, truth, dc_eq_int, dc_ne_int, dc_eq_fr, dc_eq_str, dc_ne_str, dc_lt, dc_le, dc_gt, dc_ge, dc_is, dc_isn, dBin, List.getElem?_cons_zero, List.getElem?_cons_succ, List.set_cons_zero, List.set_cons_succ, List.map_cons, List.map_nil, List.length_cons, List.length_nil, List.replicate, List.cons_append, List.nil_append, List.append_nil, Nat.reduceAdd, Nat.reduceSub, Nat.sub_self, Nat.reduceLeDiff, if_true, if_false, Bool.false_eq_true, reduceIte, Int.cast_ofNat_Int, eq_self, decide_true, decide_false, Bool.not_true, Bool.not_false, Bool.and_self, Bool.and_true, Bool.true_and, Bool.and_false, Bool.false_and, Bool.or_false, Bool.false_or, Bool.or_true, Bool.true_or, isi1, isi2, isi3, isi4, isi5, isi6, ok_int, deq_int, view_int, view_fr, view_str, ok_fr, eq_fr, view_tup, view_lst, ty_fr, tyN, List.any_cons, List.any_nil, atI_0, atI_1, atI_2, atI_3, atI_n, most, runB_rt, runB_nx, fin_same, fr, mul_nd (med_big hx) (med_big hy), mul_nd (med_big hy) (med_big hx), mul_dd (med_big hx) (med_big hy)]
  simp only [e1, dSs, dS_expr, dS_ret, dS_retN, dS_asg, dS_par, dS_aug, dS_ite, dS_for, dS_wh, dS_pass, dS_brk, dS_cnt, dP, dPs, dI, dG, dGs, dGn_eq, dB, cSeq, cRet, cExpr, cAsg, cPar, setAll, cAug, augI, cIte, aVar, aC, tst, aTup, aLst, aBin, aNeg, aCmp, aChain, aNot, aIte, aIx, aO, aSl, dCut, aCall, aCallk, aBi, aMeth, aFin, aEl, aOT, aSeq, aRange1_eq, aEnum, aZip, wipeE, List.foldl_cons, List.foldl_nil, aCons, aStar, aAndV, aOrV, aAnd, aOr, aNotT, gNm, gTp, gNl, gCn, dIx, seqOf, lstOf, zsrc, dBI, dB1, dB2, Rz.fin, truth, dc_eq_int, dc_ne_int, dc_eq_fr, dc_eq_str, dc_ne_str, dc_lt, dc_le, dc_gt, dc_ge, dc_is, dc_isn, dBin, List.getElem?_cons_zero, List.getElem?_cons_succ, List.set_cons_zero, List.set_cons_succ, List.map_cons, List.map_nil, List.length_cons, List.length_nil, List.replicate, List.cons_append, List.nil_append, List.append_nil, Nat.reduceAdd, Nat.reduceSub, Nat.sub_self, Nat.reduceLeDiff, if_true, if_false, Bool.false_eq_true, reduceIte, Int.cast_ofNat_Int, eq_self, decide_true, decide_false, Bool.not_true, Bool.not_false, Bool.and_self, Bool.and_true, Bool.true_and, Bool.and_false, Bool.false_and, Bool.or_false, Bool.false_or, Bool.or_true, Bool.true_or, isi1, isi2, isi3, isi4, isi5, isi6, ok_int, deq_int, view_int, view_fr, view_str, ok_fr, eq_fr, view_tup, view_lst, ty_fr, tyN, List.any_cons, List.any_nil, atI_0, atI_1, atI_2, atI_3, atI_n, most, runB_rt, runB_nx, fin_same]
theorem l_times (hK : 2 ≤ K) (hN : 1000000 ≤ N) {x y : Rat} (hx : Sz med x) (hy : Sz med y) : cF tb N K "_law_times" [fr x, fr y] h = some (fr (x * y), h) := by
  obtain ⟨j, rfl, hj⟩ := dep hK
  rw [call_at lk__law_times (by rfl)]
  have e1 := e_lean (N := N) (h := h) hj hN (a := x.num * y.num) (Int.mul_pos (den_pos x) (den_pos y)) (sz_dd hx hy (by decide))
  rw [fr_mul] at e1
  try simp only [b__law_times, dSs, dS_expr, dS_ret, dS_retN, dS_asg, dS_par, dS_aug, dS_ite, dS_for, dS_wh, dS_pass, dS_brk, dS_cnt, dP, dPs, dI, dG, dGs, dGn_eq, dB, cSeq, cRet, cExpr, cAsg, cPar, setAll, cAug, augI, cIte, aVar, aC, tst, aTup, aLst, aBin, aNeg, aCmp, aChain, aNot, aIte, aIx, aO, aSl, dCut, aCall, aCallk, aBi, aMeth, aFin, aEl, aOT, aSeq, aRange1_eq, aEnum, aZip, wipeE, List.foldl_cons, List.foldl_nil, aCons, aStar, aAndV, aOrV, aAnd, aOr, aNotT, gNm, gTp, gNl, gCn, dIx, seqOf, lstOf, zsrc, dBI, dB1, dB2, Rz.fin, truth, dc_eq_int, dc_ne_int, dc_eq_fr, dc_eq_str, dc_ne_str, dc_lt, dc_le, dc_gt, dc_ge, dc_is, dc_isn, dBin, List.getElem?_cons_zero, List.getElem?_cons_succ, List.set_cons_zero, List.set_cons_succ, List.map_cons, List.map_nil, List.length_cons, List.length_nil, List.replicate, List.cons_append, List.nil_append, List.append_nil, Nat.reduceAdd, Nat.reduceSub, Nat.sub_self, Nat.reduceLeDiff, if_true, if_false, Bool.false_eq_true, reduceIte, Int.cast_ofNat_Int, eq_self, decide_true, decide_false, Bool.not_true, Bool.not_false, Bool.and_self, Bool.and_true, Bool.true_and, Bool.and_false, Bool.false_and, Bool.or_false, Bool.false_or, Bool.or_true, Bool.true_or, isi1, isi2, isi3, isi4, isi5, isi6, ok_int, deq_int, view_int, view_fr, view_str, ok_fr, eq_fr, view_tup, view_lst, ty_fr, tyN, List.any_cons, List.any_nil, atI_0, atI_1, atI_2, atI_3, atI_n, most, runB_rt, runB_nx, fin_same, fr, mul_nn (med_big hx) (med_big hy), mul_dd (med_big hx) (med_big hy)] at e1
  try simp only [b__law_times, dSs, dS_expr, dS_ret, dS_retN, dS_asg, dS_par, dS_aug, dS_ite, dS_for, dS_wh, dS_pass, dS_brk, dS_cnt, dP, dPs, dI, dG, dGs, dGn_eq, dB, cSeq, cRet, cExpr, cAsg, cPar, setAll, cAug, augI, cIte, aVar, aC, tst, aTup, aLst, aBin, aNeg, aCmp, aChain, aNot, aIte, aIx, aO, aSl, dCut, aCall, aCallk, aBi, aMeth, aFin, aEl, aOT, aSeq, aRange1_eq, aEnum, aZip, wipeE, List.foldl_cons, List.foldl_nil, aCons, aStar, aAndV, aOrV, aAnd, aOr, aNotT, gNm, gTp, gNl, gCn, dIx, seqOf, lstOf, zsrc, dBI, dB1, dB2, Rz.fin, truth, dc_eq_int, dc_ne_int, dc_eq_fr, dc_eq_str, dc_ne_str, dc_lt, dc_le, dc_gt, dc_ge, dc_is, dc_isn, dBin, List.getElem?_cons_zero, List.getElem?_cons_succ, List.set_cons_zero, List.set_cons_succ, List.map_cons, List.map_nil, List.length_cons, List.length_nil, List.replicate, List.cons_append, List.nil_append, List.append_nil, Nat.reduceAdd, Nat.reduceSub, Nat.sub_self, Nat.reduceLeDiff, if_true, if_false, Bool.false_eq_true, reduceIte, Int.cast_ofNat_Int, eq_self, decide_true, decide_false, Bool.not_true, Bool.not_false, Bool.and_self, Bool.and_true, Bool.true_and, Bool.and_false, Bool.false_and, Bool.or_false, Bool.false_or, Bool.or_true, Bool.true_or, isi1, isi2, isi3, isi4, isi5, isi6, ok_int, deq_int, view_int, view_fr, view_str, ok_fr, eq_fr, view_tup, view_lst, ty_fr, tyN, List.any_cons, List.any_nil, atI_0, atI_1, atI_2, atI_3, atI_n, most, runB_rt, runB_nx, fin_same, fr, mul_nn (med_big hx) (med_big hy), mul_dd (med_big hx) (med_big hy)]
  simp only [e1, dSs, dS_expr, dS_ret, dS_retN, dS_asg, dS_par, dS_aug, dS_ite, dS_for, dS_wh, dS_pass, dS_brk, dS_cnt, dP, dPs, dI, dG, dGs, dGn_eq, dB, cSeq, cRet, cExpr, cAsg, cPar, setAll, cAug, augI, cIte, aVar, aC, tst, aTup, aLst, aBin, aNeg, aCmp, aChain, aNot, aIte, aIx, aO, aSl, dCut, aCall, aCallk, aBi, aMeth, aFin, aEl, aOT, aSeq, aRange1_eq, aEnum, aZip, wipeE, List.foldl_cons, List.foldl_nil, aCons, aStar, aAndV, aOrV, aAnd, aOr, aNotT, gNm, gTp, gNl, gCn, dIx, seqOf, lstOf, zsrc, dBI, dB1, dB2, Rz.fin, truth, dc_eq_int, dc_ne_int, dc_eq_fr, dc_eq_str, dc_ne_str, dc_lt, dc_le, dc_gt, dc_ge, dc_is, dc_isn, dBin, List.getElem?_cons_zero, List.getElem?_cons_succ, List.set_cons_zero, List.set_cons_succ, List.map_cons, List.map_nil, List.length_cons, List.length_nil, List.replicate, List.cons_append, List.nil_append, List.append_nil, Nat.reduceAdd, Nat.reduceSub, Nat.sub_self, Nat.reduceLeDiff, if_true, if_false, Bool.false_eq_true, reduceIte, Int.cast_ofNat_Int, eq_self, decide_true, decide_false, Bool.not_true, Bool.not_false, Bool.and_self, Bool.and_true, Bool.true_and, Bool.and_false, Bool.false_and, Bool.or_false, Bool.false_or, Bool.or_true, Bool.true_or, isi1, isi2, isi3, isi4, isi5, isi6, ok_int, deq_int, view_int, view_fr, view_str, ok_fr, eq_fr, view_tup, view_lst, ty_fr, tyN, List.any_cons, List.any_nil, atI_0, atI_1, atI_2, atI_3, atI_n, most, runB_rt, runB_nx, fin_same]
theorem l_below (hK : 1 ≤ K) {x y : Rat} (hx : Sz big x) (hy : Sz big y) : cF tb N K "_law_below" [fr x, fr y] h = some (.bl (decide (x < y)), h) := by
  obtain ⟨j, rfl, hj⟩ := dep hK
  rw [call_at lk__law_below (by rfl)]
  simp only [b__law_below, dSs, dS_expr, dS_ret, dS_retN, dS_asg, dS_par, dS_aug, dS_ite, dS_for, dS_wh, dS_pass, dS_brk, dS_cnt, dP, dPs, dI, dG, dGs, dGn_eq, dB, cSeq, cRet, cExpr, cAsg, cPar, setAll, cAug, augI, cIte, aVar, aC, tst, aTup, aLst, aBin, aNeg, aCmp, aChain, aNot, aIte, aIx, aO, aSl, dCut, aCall, aCallk, aBi, aMeth, aFin, aEl, aOT, aSeq, aRange1_eq, aEnum, aZip, wipeE, List.foldl_cons, List.foldl_nil, aCons, aStar, aAndV, aOrV, aAnd, aOr, aNotT, gNm, gTp, gNl, gCn, dIx, seqOf, lstOf, zsrc, dBI, dB1, dB2, Rz.fin, truth, dc_eq_int, dc_ne_int, dc_eq_fr, dc_eq_str, dc_ne_str, dc_lt, dc_le, dc_gt, dc_ge, dc_is, dc_isn, dBin, List.getElem?_cons_zero, List.getElem?_cons_succ, List.set_cons_zero, List.set_cons_succ, List.map_cons, List.map_nil, List.length_cons, List.length_nil, List.replicate, List.cons_append, List.nil_append, List.append_nil, Nat.reduceAdd, Nat.reduceSub, Nat.sub_self, Nat.reduceLeDiff, if_true, if_false, Bool.false_eq_true, reduceIte, Int.cast_ofNat_Int, eq_self, decide_true, decide_false, Bool.not_true, Bool.not_false, Bool.and_self, Bool.and_true, Bool.true_and, Bool.and_false, Bool.false_and, Bool.or_false, Bool.false_or, Bool.or_true, Bool.true_or, isi1, isi2, isi3, isi4, isi5, isi6, ok_int, deq_int, view_int, view_fr, view_str, ok_fr, eq_fr, view_tup, view_lst, ty_fr, tyN, List.any_cons, List.any_nil, atI_0, atI_1, atI_2, atI_3, atI_n, most, runB_rt, runB_nx, fin_same, fr, mul_nd hx hy, mul_nd hy hx]
  simp only [Rat.lt_iff]
theorem l_dot (hK : 3 ≤ K) (hN : 1000000 ≤ N) {a b : List Rat} (ha : ∀ x ∈ a, Sz 900 x) (hb : ∀ x ∈ b, Sz 900 x) (n : a.length ≤ 50) : cF tb N K "_law_dot" [rowD a, rowD b] h = some (fr (dotR a b), h) := by
  obtain ⟨j, rfl, hj⟩ := dep hK
  rw [call_at lk__law_dot (by rfl)]
  have nz : (a.zip b).length ≤ 50 := by rw [List.length_zip]; omega
  have mem : ∀ p ∈ a.zip b, Sz 900 p.1 ∧ Sz 900 p.2 := fun p hp => ⟨ha _ (List.of_mem_zip hp).1, hb _ (List.of_mem_zip hp).2⟩
  have loop : ∃ u v, forL none (bodyF (cF tb N j) N (.tup (.cons (.name 3) (.cons (.name 4) .nil))) b__law_dot_1) (zipD (a.map fr) (b.map fr)) [some (rowD a), some (rowD b), some (fr 0), none, none] h = some (.nx [some (rowD a), some (rowD b), some (fr (dotR a b)), u, v] h) := by
    rw [zipD_map]
    have q := forL_fold (α := Rat × Option D × Option D) (f := bodyF (cF tb N j) N (.tup (.cons (.name 3) (.cons (.name 4) .nil))) b__law_dot_1) (h := h) (fun z : Rat × Rat => D.tup [fr z.1, fr z.2]) (fun s _ => [some (rowD a), some (rowD b), some (fr s.1), s.2.1, s.2.2]) (fun s p => (s.1 + p.1 * p.2, some (fr p.1), some (fr p.2))) (a.zip b) (0, none, none) none fun pre p post e z => ?_
    · have key : ∀ (l : List (Rat × Rat)) (s : Rat × Option D × Option D), (l.foldl (fun s p => (s.1 + p.1 * p.2, some (fr p.1), some (fr p.2))) s).1 = l.foldl (fun s p => s + p.1 * p.2) s.1 := by
        intro l
        induction l with
        | nil => intro s; rfl
        | cons p l ih => intro s; rw [List.foldl_cons, List.foldl_cons, ih]
      rw [key] at q
      exact ⟨_, _, q⟩
    · have key : ∀ (l : List (Rat × Rat)) (s : Rat × Option D × Option D), (l.foldl (fun s p => (s.1 + p.1 * p.2, some (fr p.1), some (fr p.2))) s).1 = l.foldl (fun s p => s + p.1 * p.2) s.1 := by
        intro l
        induction l with
        | nil => intro s; rfl
        | cons p l ih => intro s; rw [List.foldl_cons, List.foldl_cons, ih]
      have hm := mem p (by rw [e]; simp)
      have hp : Sz med (pre.foldl (fun s p => s + p.1 * p.2) 0) := by
        have l2 : pre.length ≤ 50 := by rw [e, List.length_append] at nz; omega
        refine (Sz.sum (b := 1800) (g := fun p : Rat × Rat => p.1 * p.2) pre sz0 fun y hy => ?_).mono ?_
        · have := mem y (by rw [e]; simp [hy])
          exact this.1.mul this.2
        · have := Nat.mul_le_mul_right (1800 + 1) l2
          unfold med
          omega
      rw [key]
      generalize List.foldl (fun s p => (s.1 + p.1 * p.2, some (fr p.1), some (fr p.2))) (0, none, none) pre = w at *
      generalize pre.foldl (fun (s : Rat) (p : Rat × Rat) => s + p.1 * p.2) 0 = s at *
      obtain ⟨w1, w2, w3⟩ := w
      have e1 := l_times (N := N) (h := h) (K := j) (by omega) hN (hm.1.mono (by decide) : Sz med p.1) (hm.2.mono (by decide) : Sz med p.2)
      have e2 := l_plus (N := N) (h := h) (K := j) (by omega) hN hp ((hm.1.mul hm.2).mono (by decide) : Sz med (p.1 * p.2))
      simp only [bodyF, b__law_dot_1, dSs, dS_expr, dS_ret, dS_retN, dS_asg, dS_par, dS_aug, dS_ite, dS_for, dS_wh, dS_pass, dS_brk, dS_cnt, dP, dPs, dI, dG, dGs, dGn_eq, dB, cSeq, cRet, cExpr, cAsg, cPar, setAll, cAug, augI, cIte, aVar, aC, tst, aTup, aLst, aBin, aNeg, aCmp, aChain, aNot, aIte, aIx, aO, aSl, dCut, aCall, aCallk, aBi, aMeth, aFin, aEl, aOT, aSeq, aRange1_eq, aEnum, aZip, wipeE, List.foldl_cons, List.foldl_nil, aCons, aStar, aAndV, aOrV, aAnd, aOr, aNotT, gNm, gTp, gNl, gCn, dIx, seqOf, lstOf, zsrc, dBI, dB1, dB2, Rz.fin, truth, dc_eq_int, dc_ne_int, dc_eq_fr, dc_eq_str, dc_ne_str, dc_lt, dc_le, dc_gt, dc_ge, dc_is, dc_isn, dBin, List.getElem?_cons_zero, List.getElem?_cons_succ, List.set_cons_zero, List.set_cons_succ, List.map_cons, List.map_nil, List.length_cons, List.length_nil, List.replicate, List.cons_append, List.nil_append, List.append_nil, Nat.reduceAdd, Nat.reduceSub, Nat.sub_self, Nat.reduceLeDiff, if_true, if_false, Bool.false_eq_true, reduceIte, Int.cast_ofNat_Int, eq_self, decide_true, decide_false, Bool.not_true, Bool.not_false, Bool.and_self, Bool.and_true, Bool.true_and, Bool.and_false, Bool.false_and, Bool.or_false, Bool.false_or, Bool.or_true, Bool.true_or, isi1, isi2, isi3, isi4, isi5, isi6, ok_int, deq_int, view_int, view_fr, view_str, ok_fr, eq_fr, view_tup, view_lst, ty_fr, tyN, List.any_cons, List.any_nil, atI_0, atI_1, atI_2, atI_3, atI_n, most, runB_rt, runB_nx, fin_same, e1, e2]
  obtain ⟨u, v, loop⟩ := loop
  try simp only [b__law_dot, dSs, dS_expr, dS_ret, dS_retN, dS_asg, dS_par, dS_aug, dS_ite, dS_for, dS_wh, dS_pass, dS_brk, dS_cnt, dP, dPs, dI, dG, dGs, dGn_eq, dB, cSeq, cRet, cExpr, cAsg, cPar, setAll, cAug, augI, cIte, aVar, aC, tst, aTup, aLst, aBin, aNeg, aCmp, aChain, aNot, aIte, aIx, aO, aSl, dCut, aCall, aCallk, aBi, aMeth, aFin, aEl, aOT, aSeq, aRange1_eq, aEnum, aZip, wipeE, List.foldl_cons, List.foldl_nil, aCons, aStar, aAndV, aOrV, aAnd, aOr, aNotT, gNm, gTp, gNl, gCn, dIx, seqOf, lstOf, zsrc, dBI, dB1, dB2, Rz.fin, truth, dc_eq_int, dc_ne_int, dc_eq_fr, dc_eq_str, dc_ne_str, dc_lt, dc_le, dc_gt, dc_ge, dc_is, dc_isn, dBin, List.getElem?_cons_zero, List.getElem?_cons_succ, List.set_cons_zero, List.set_cons_succ, List.map_cons, List.map_nil, List.length_cons, List.length_nil, List.replicate, List.cons_append, List.nil_append, List.append_nil, Nat.reduceAdd, Nat.reduceSub, Nat.sub_self, Nat.reduceLeDiff, if_true, if_false, Bool.false_eq_true, reduceIte, Int.cast_ofNat_Int, eq_self, decide_true, decide_false, Bool.not_true, Bool.not_false, Bool.and_self, Bool.and_true, Bool.true_and, Bool.and_false, Bool.false_and, Bool.or_false, Bool.false_or, Bool.or_true, Bool.true_or, isi1, isi2, isi3, isi4, isi5, isi6, ok_int, deq_int, view_int, view_fr, view_str, ok_fr, eq_fr, view_tup, view_lst, ty_fr, tyN, List.any_cons, List.any_nil, atI_0, atI_1, atI_2, atI_3, atI_n, most, runB_rt, runB_nx, fin_same, rowD, fr0] at loop
  try simp only [b__law_dot, dSs, dS_expr, dS_ret, dS_retN, dS_asg, dS_par, dS_aug, dS_ite, dS_for, dS_wh, dS_pass, dS_brk, dS_cnt, dP, dPs, dI, dG, dGs, dGn_eq, dB, cSeq, cRet, cExpr, cAsg, cPar, setAll, cAug, augI, cIte, aVar, aC, tst, aTup, aLst, aBin, aNeg, aCmp, aChain, aNot, aIte, aIx, aO, aSl, dCut, aCall, aCallk, aBi, aMeth, aFin, aEl, aOT, aSeq, aRange1_eq, aEnum, aZip, wipeE, List.foldl_cons, List.foldl_nil, aCons, aStar, aAndV, aOrV, aAnd, aOr, aNotT, gNm, gTp, gNl, gCn, dIx, seqOf, lstOf, zsrc, dBI, dB1, dB2, Rz.fin, truth, dc_eq_int, dc_ne_int, dc_eq_fr, dc_eq_str, dc_ne_str, dc_lt, dc_le, dc_gt, dc_ge, dc_is, dc_isn, dBin, List.getElem?_cons_zero, List.getElem?_cons_succ, List.set_cons_zero, List.set_cons_succ, List.map_cons, List.map_nil, List.length_cons, List.length_nil, List.replicate, List.cons_append, List.nil_append, List.append_nil, Nat.reduceAdd, Nat.reduceSub, Nat.sub_self, Nat.reduceLeDiff, if_true, if_false, Bool.false_eq_true, reduceIte, Int.cast_ofNat_Int, eq_self, decide_true, decide_false, Bool.not_true, Bool.not_false, Bool.and_self, Bool.and_true, Bool.true_and, Bool.and_false, Bool.false_and, Bool.or_false, Bool.false_or, Bool.or_true, Bool.true_or, isi1, isi2, isi3, isi4, isi5, isi6, ok_int, deq_int, view_int, view_fr, view_str, ok_fr, eq_fr, view_tup, view_lst, ty_fr, tyN, List.any_cons, List.any_nil, atI_0, atI_1, atI_2, atI_3, atI_n, most, runB_rt, runB_nx, fin_same, rowD, fr0]
  simp only [loop, dSs, dS_expr, dS_ret, dS_retN, dS_asg, dS_par, dS_aug, dS_ite, dS_for, dS_wh, dS_pass, dS_brk, dS_cnt, dP, dPs, dI, dG, dGs, dGn_eq, dB, cSeq, cRet, cExpr, cAsg, cPar, setAll, cAug, augI, cIte, aVar, aC, tst, aTup, aLst, aBin, aNeg, aCmp, aChain, aNot, aIte, aIx, aO, aSl, dCut, aCall, aCallk, aBi, aMeth, aFin, aEl, aOT, aSeq, aRange1_eq, aEnum, aZip, wipeE, List.foldl_cons, List.foldl_nil, aCons, aStar, aAndV, aOrV, aAnd, aOr, aNotT, gNm, gTp, gNl, gCn, dIx, seqOf, lstOf, zsrc, dBI, dB1, dB2, Rz.fin, truth, dc_eq_int, dc_ne_int, dc_eq_fr, dc_eq_str, dc_ne_str, dc_lt, dc_le, dc_gt, dc_ge, dc_is, dc_isn, dBin, List.getElem?_cons_zero, List.getElem?_cons_succ, List.set_cons_zero, List.set_cons_succ, List.map_cons, List.map_nil, List.length_cons, List.length_nil, List.replicate, List.cons_append, List.nil_append, List.append_nil, Nat.reduceAdd, Nat.reduceSub, Nat.sub_self, Nat.reduceLeDiff, if_true, if_false, Bool.false_eq_true, reduceIte, Int.cast_ofNat_Int, eq_self, decide_true, decide_false, Bool.not_true, Bool.not_false, Bool.and_self, Bool.and_true, Bool.true_and, Bool.and_false, Bool.false_and, Bool.or_false, Bool.false_or, Bool.or_true, Bool.true_or, isi1, isi2, isi3, isi4, isi5, isi6, ok_int, deq_int, view_int, view_fr, view_str, ok_fr, eq_fr, view_tup, view_lst, ty_fr, tyN, List.any_cons, List.any_nil, atI_0, atI_1, atI_2, atI_3, atI_n, most, runB_rt, runB_nx, fin_same]
end Row
namespace Row
open PySem PySem.Spec PyProof.Rows L2 Ev
variable {N K : Nat} {h : AH} {P W : List (List Rat)} {n m : Nat} {c : List Rat}
/-! ### the law's best ones are the program's -/
theorem zipIdx_range (l : List Rat) : l.zipIdx = (List.range l.length).map fun i => (l.getD i 0, i) := by
  apply List.ext_getElem?
  intro i
  rw [List.getElem?_zipIdx, List.getElem?_map]
  by_cases hi : i < l.length
  · rw [List.getElem?_eq_getElem hi, List.getElem?_range hi]
    simp [hi]
  · rw [List.getElem?_eq_none (by omega), List.getElem?_eq_none (by rw [List.length_range]; omega)] <;> rfl
theorem bestN_range (l : List Rat) : bestN l = (List.range l.length).filter fun i => decide (l.getD i 0 = mx l) := by
  unfold bestN
  rw [zipIdx_range, List.filter_map, List.map_map]
  have : ((fun x : Rat × Nat => x.2) ∘ fun i => (l.getD i 0, i)) = id := by funext i; rfl
  rw [this, List.map_id] <;> rfl
def bestL (l : List Rat) : List Nat := (List.range l.length).filter fun i => !(l.any fun x => decide (l.getD i 0 < x))
theorem bestL_eq (l : List Rat) : bestL l = bestN l := by
  rw [bestN_range]
  unfold bestL
  refine List.filter_congr fun i hi => ?_
  rw [List.mem_range] at hi
  have hm : l.getD i 0 ∈ l := by
    rw [List.getD_eq_getElem?_getD, List.getElem?_eq_getElem hi]
    exact List.getElem_mem hi
  have hg := mx_ge _ hm
  have hx := mx_mem (l := l) (fun z => by rw [z] at hi; simp at hi)
  rw [Bool.eq_iff_iff, Bool.not_eq_true', decide_eq_true_eq, List.any_eq_false]
  constructor
  · intro H
    have := H _ hx
    rw [decide_eq_true_eq] at this
    grind
  · intro e x hx2
    have := mx_ge _ hx2
    rw [decide_eq_true_eq]
    grind
theorem getD_fr {l : List Rat} {i : Nat} (hi : i < l.length) : (l.map fr)[i]? = some (fr (l.getD i 0)) := by
  rw [List.getElem?_map, List.getD_eq_getElem?_getD, List.getElem?_eq_getElem hi] <;> rfl
theorem in_best {j i : Nat} {e0 e1 e3 e5 : Option D} {l : List Rat} (hj : 1 ≤ j) (hl : ∀ y ∈ l, Sz big y) (hn : l.length ≤ 50) (hi : i < l.length) :
    dGn (cF tb N j) g__law_best_1 [e0, e1, some (.lst (l.map fr)), e3, some (.int (i : Nat)), e5] h = some (l.map fun x => .bl (decide (l.getD i 0 < x)), h) := by
  refine gn_of (ds := l.map fr) (ck := none) (h1 := h) ?_ (lc_mapR fr _ (fun x hx => ?_) (by unfold most; omega))
  · simp only [gs__law_best_1, dSs, dS_expr, dS_ret, dS_retN, dS_asg, dS_par, dS_aug, dS_ite, dS_for, dS_wh, dS_pass, dS_brk, dS_cnt, dP, dPs, dI, dG, dGs, dGn_eq, dB, cSeq, cRet, cExpr, cAsg, cPar, setAll, cAug, augI, cIte, aVar, aC, tst, aTup, aLst, aBin, aNeg, aCmp, aChain, aNot, aIte, aIx, aO, aSl, dCut, aCall, aCallk, aBi, aMeth, aFin, aEl, aOT, aSeq, aRange1_eq, aEnum, aZip, wipeE, List.foldl_cons, List.foldl_nil, aCons, aStar, aAndV, aOrV, aAnd, aOr, aNotT, gNm, gTp, gNl, gCn, dIx, seqOf, lstOf, zsrc, dBI, dB1, dB2, Rz.fin, truth, dc_eq_int, dc_ne_int, dc_eq_fr, dc_eq_str, dc_ne_str, dc_lt, dc_le, dc_gt, dc_ge, dc_is, dc_isn, dBin, List.getElem?_cons_zero, List.getElem?_cons_succ, List.set_cons_zero, List.set_cons_succ, List.map_cons, List.map_nil, List.length_cons, List.length_nil, List.replicate, List.cons_append, List.nil_append, List.append_nil, Nat.reduceAdd, Nat.reduceSub, Nat.sub_self, Nat.reduceLeDiff, if_true, if_false, Bool.false_eq_true, reduceIte, Int.cast_ofNat_Int, eq_self, decide_true, decide_false, Bool.not_true, Bool.not_false, Bool.and_self, Bool.and_true, Bool.true_and, Bool.and_false, Bool.false_and, Bool.or_false, Bool.false_or, Bool.or_true, Bool.true_or, isi1, isi2, isi3, isi4, isi5, isi6, ok_int, deq_int, view_int, view_fr, view_str, ok_fr, eq_fr, view_tup, view_lst, ty_fr, tyN, List.any_cons, List.any_nil, atI_0, atI_1, atI_2, atI_3, atI_n, most, runB_rt, runB_nx, fin_same]
  · have hm : l.getD i 0 ∈ l := by
      rw [List.getD_eq_getElem?_getD, List.getElem?_eq_getElem hi]
      exact List.getElem_mem hi
    simp only [gnF, g__law_best_1, dSs, dS_expr, dS_ret, dS_retN, dS_asg, dS_par, dS_aug, dS_ite, dS_for, dS_wh, dS_pass, dS_brk, dS_cnt, dP, dPs, dI, dG, dGs, dGn_eq, dB, cSeq, cRet, cExpr, cAsg, cPar, setAll, cAug, augI, cIte, aVar, aC, tst, aTup, aLst, aBin, aNeg, aCmp, aChain, aNot, aIte, aIx, aO, aSl, dCut, aCall, aCallk, aBi, aMeth, aFin, aEl, aOT, aSeq, aRange1_eq, aEnum, aZip, wipeE, List.foldl_cons, List.foldl_nil, aCons, aStar, aAndV, aOrV, aAnd, aOr, aNotT, gNm, gTp, gNl, gCn, dIx, seqOf, lstOf, zsrc, dBI, dB1, dB2, Rz.fin, truth, dc_eq_int, dc_ne_int, dc_eq_fr, dc_eq_str, dc_ne_str, dc_lt, dc_le, dc_gt, dc_ge, dc_is, dc_isn, dBin, List.getElem?_cons_zero, List.getElem?_cons_succ, List.set_cons_zero, List.set_cons_succ, List.map_cons, List.map_nil, List.length_cons, List.length_nil, List.replicate, List.cons_append, List.nil_append, List.append_nil, Nat.reduceAdd, Nat.reduceSub, Nat.sub_self, Nat.reduceLeDiff, if_true, if_false, Bool.false_eq_true, reduceIte, Int.cast_ofNat_Int, eq_self, decide_true, decide_false, Bool.not_true, Bool.not_false, Bool.and_self, Bool.and_true, Bool.true_and, Bool.and_false, Bool.false_and, Bool.or_false, Bool.false_or, Bool.or_true, Bool.true_or, isi1, isi2, isi3, isi4, isi5, isi6, ok_int, deq_int, view_int, view_fr, view_str, ok_fr, eq_fr, view_tup, view_lst, ty_fr, tyN, List.any_cons, List.any_nil, atI_0, atI_1, atI_2, atI_3, atI_n, most, runB_rt, runB_nx, fin_same, getD_fr hi, l_below (N := N) (h := h) (K := j) hj (hl _ hm) (hl x hx)]
theorem out_best {j : Nat} {e0 e1 e3 e4 e5 : Option D} {l : List Rat} (hj : 1 ≤ j) (hl : ∀ y ∈ l, Sz big y) (hn : l.length ≤ 50) :
    lcL none (gnF (cF tb N j) g__law_best_2 [e0, e1, some (.lst (l.map fr)), e3, e4, e5]) ((List.range l.length).map fun i => .int (i : Nat)) [] h = some ((bestN l).map fun i => .int (i : Nat), h) := by
  rw [← bestL_eq]
  refine lc_filR (fun i : Nat => D.int (i : Nat)) _ _ (fun i hi => ?_) (by rw [List.length_range]; unfold most; omega)
  rw [List.mem_range] at hi
  have q := in_best (N := N) (h := h) (j := j) (i := i) (e0 := e0) (e1 := e1) (e3 := e3) (e5 := e5) hj hl hn hi
  have b := bls_map (fun x => decide (l.getD i 0 < x)) l
  cases z : l.any fun x => decide (l.getD i 0 < x) with
  | true => simp only [gnF, g__law_best_2, dSs, dS_expr, dS_ret, dS_retN, dS_asg, dS_par, dS_aug, dS_ite, dS_for, dS_wh, dS_pass, dS_brk, dS_cnt, dP, dPs, dI, dG, dGs, dB, cSeq, cRet, cExpr, cAsg, cPar, setAll, cAug, augI, cIte, aVar, aC, tst, aTup, aLst, aBin, aNeg, aCmp, aChain, aNot, aIte, aIx, aO, aSl, dCut, aCall, aCallk, aBi, aMeth, aFin, aEl, aOT, aSeq, aRange1_eq, aEnum, aZip, wipeE, List.foldl_cons, List.foldl_nil, aCons, aStar, aAndV, aOrV, aAnd, aOr, aNotT, gNm, gTp, gNl, gCn, dIx, seqOf, lstOf, zsrc, dBI, dB1, dB2, Rz.fin, truth, dc_eq_int, dc_ne_int, dc_eq_fr, dc_eq_str, dc_ne_str, dc_lt, dc_le, dc_gt, dc_ge, dc_is, dc_isn, dBin, List.getElem?_cons_zero, List.getElem?_cons_succ, List.set_cons_zero, List.set_cons_succ, List.map_cons, List.map_nil, List.length_cons, List.length_nil, List.replicate, List.cons_append, List.nil_append, List.append_nil, Nat.reduceAdd, Nat.reduceSub, Nat.sub_self, Nat.reduceLeDiff, if_true, if_false, Bool.false_eq_true, reduceIte, Int.cast_ofNat_Int, eq_self, decide_true, decide_false, Bool.not_true, Bool.not_false, Bool.and_self, Bool.and_true, Bool.true_and, Bool.and_false, Bool.false_and, Bool.or_false, Bool.false_or, Bool.or_true, Bool.true_or, isi1, isi2, isi3, isi4, isi5, isi6, ok_int, deq_int, view_int, view_fr, view_str, ok_fr, eq_fr, view_tup, view_lst, ty_fr, tyN, List.any_cons, List.any_nil, atI_0, atI_1, atI_2, atI_3, atI_n, most, runB_rt, runB_nx, fin_same, q, b, any_map, z]
  | false => simp only [gnF, g__law_best_2, dSs, dS_expr, dS_ret, dS_retN, dS_asg, dS_par, dS_aug, dS_ite, dS_for, dS_wh, dS_pass, dS_brk, dS_cnt, dP, dPs, dI, dG, dGs, dB, cSeq, cRet, cExpr, cAsg, cPar, setAll, cAug, augI, cIte, aVar, aC, tst, aTup, aLst, aBin, aNeg, aCmp, aChain, aNot, aIte, aIx, aO, aSl, dCut, aCall, aCallk, aBi, aMeth, aFin, aEl, aOT, aSeq, aRange1_eq, aEnum, aZip, wipeE, List.foldl_cons, List.foldl_nil, aCons, aStar, aAndV, aOrV, aAnd, aOr, aNotT, gNm, gTp, gNl, gCn, dIx, seqOf, lstOf, zsrc, dBI, dB1, dB2, Rz.fin, truth, dc_eq_int, dc_ne_int, dc_eq_fr, dc_eq_str, dc_ne_str, dc_lt, dc_le, dc_gt, dc_ge, dc_is, dc_isn, dBin, List.getElem?_cons_zero, List.getElem?_cons_succ, List.set_cons_zero, List.set_cons_succ, List.map_cons, List.map_nil, List.length_cons, List.length_nil, List.replicate, List.cons_append, List.nil_append, List.append_nil, Nat.reduceAdd, Nat.reduceSub, Nat.sub_self, Nat.reduceLeDiff, if_true, if_false, Bool.false_eq_true, reduceIte, Int.cast_ofNat_Int, eq_self, decide_true, decide_false, Bool.not_true, Bool.not_false, Bool.and_self, Bool.and_true, Bool.true_and, Bool.and_false, Bool.false_and, Bool.or_false, Bool.false_or, Bool.or_true, Bool.true_or, isi1, isi2, isi3, isi4, isi5, isi6, ok_int, deq_int, view_int, view_fr, view_str, ok_fr, eq_fr, view_tup, view_lst, ty_fr, tyN, List.any_cons, List.any_nil, atI_0, atI_1, atI_2, atI_3, atI_n, most, runB_rt, runB_nx, fin_same, q, b, any_map, z]
theorem src_lbest {cf : CF} {xs : List D} {e1 e2 e3 e4 e5 : Option D} : gnS cf g__law_best_2 [some (.tup xs), e1, e2, e3, e4, e5] h = rng1 (xs.length : Int) h := by
  rw [gs__law_best_2]
  simp only [dI, dP, dPs, aRange1_eq, aVar, aBi, aCons, dBI, dB1, seqOf, Rz.fin, List.getElem?_cons_zero, Bool.false_eq_true, if_false]
theorem run_lbest {j : Nat} {x y : D} {zs bs : List D} (q1 : dGn (cF tb N j) g__law_best_3 [some x, some y, none, none, none, none] h = some (zs, h)) (q2 : dGn (cF tb N j) g__law_best_2 [some x, some y, some (.lst zs), none, none, none] h = some (bs, h)) :
    runB false (dSs (cF tb N j) N b__law_best ([x, y].map some ++ List.replicate (6 - [x, y].length) none) h) h = some (.lst bs, h) := by
  simp only [b__law_best, dSs, dS_expr, dS_ret, dS_retN, dS_asg, dS_par, dS_aug, dS_ite, dS_for, dS_wh, dS_pass, dS_brk, dS_cnt, dP, dPs, dI, dG, dGs, dB, cSeq, cRet, cExpr, cAsg, cPar, setAll, cAug, augI, cIte, aVar, aC, tst, aTup, aLst, aBin, aNeg, aCmp, aChain, aNot, aIte, aIx, aO, aSl, dCut, aCall, aCallk, aBi, aMeth, aFin, aEl, aOT, aSeq, aRange1_eq, aEnum, aZip, wipeE, List.foldl_cons, List.foldl_nil, aCons, aStar, aAndV, aOrV, aAnd, aOr, aNotT, gNm, gTp, gNl, gCn, dIx, seqOf, lstOf, zsrc, dBI, dB1, dB2, Rz.fin, truth, dc_eq_int, dc_ne_int, dc_eq_fr, dc_eq_str, dc_ne_str, dc_lt, dc_le, dc_gt, dc_ge, dc_is, dc_isn, dBin, List.getElem?_cons_zero, List.getElem?_cons_succ, List.set_cons_zero, List.set_cons_succ, List.map_cons, List.map_nil, List.length_cons, List.length_nil, List.replicate, List.cons_append, List.nil_append, List.append_nil, Nat.reduceAdd, Nat.reduceSub, Nat.sub_self, Nat.reduceLeDiff, if_true, if_false, Bool.false_eq_true, reduceIte, Int.cast_ofNat_Int, eq_self, decide_true, decide_false, Bool.not_true, Bool.not_false, Bool.and_self, Bool.and_true, Bool.true_and, Bool.and_false, Bool.false_and, Bool.or_false, Bool.false_or, Bool.or_true, Bool.true_or, isi1, isi2, isi3, isi4, isi5, isi6, ok_int, deq_int, view_int, view_fr, view_str, ok_fr, eq_fr, view_tup, view_lst, ty_fr, tyN, List.any_cons, List.any_nil, atI_0, atI_1, atI_2, atI_3, atI_n, most, runB_rt, runB_nx, fin_same, q1, q2]
theorem lc_lbest {j : Nat} (hj : 3 ≤ j) (hN : 1000000 ≤ N) (v : Tb n m P) (hp : ∀ r ∈ P, ∀ x ∈ r, Sz 900 x) (hc : ∀ x ∈ c, Sz 900 x) (hm : m ≤ 50) (hn : n ≤ 50) : dGn (cF tb N j) g__law_best_3 [some (tabD P), some (rowD c), none, none, none, none] h = some ((sums P c).map fr, h) := by
  refine gn_of (ds := P.map rowD) (ck := none) (h1 := h) (by simp only [gs__law_best_3, dSs, dS_expr, dS_ret, dS_retN, dS_asg, dS_par, dS_aug, dS_ite, dS_for, dS_wh, dS_pass, dS_brk, dS_cnt, dP, dPs, dI, dG, dGs, dGn_eq, dB, cSeq, cRet, cExpr, cAsg, cPar, setAll, cAug, augI, cIte, aVar, aC, tst, aTup, aLst, aBin, aNeg, aCmp, aChain, aNot, aIte, aIx, aO, aSl, dCut, aCall, aCallk, aBi, aMeth, aFin, aEl, aOT, aSeq, aRange1_eq, aEnum, aZip, wipeE, List.foldl_cons, List.foldl_nil, aCons, aStar, aAndV, aOrV, aAnd, aOr, aNotT, gNm, gTp, gNl, gCn, dIx, seqOf, lstOf, zsrc, dBI, dB1, dB2, Rz.fin, truth, dc_eq_int, dc_ne_int, dc_eq_fr, dc_eq_str, dc_ne_str, dc_lt, dc_le, dc_gt, dc_ge, dc_is, dc_isn, dBin, List.getElem?_cons_zero, List.getElem?_cons_succ, List.set_cons_zero, List.set_cons_succ, List.map_cons, List.map_nil, List.length_cons, List.length_nil, List.replicate, List.cons_append, List.nil_append, List.append_nil, Nat.reduceAdd, Nat.reduceSub, Nat.sub_self, Nat.reduceLeDiff, if_true, if_false, Bool.false_eq_true, reduceIte, Int.cast_ofNat_Int, eq_self, decide_true, decide_false, Bool.not_true, Bool.not_false, Bool.and_self, Bool.and_true, Bool.true_and, Bool.and_false, Bool.false_and, Bool.or_false, Bool.false_or, Bool.or_true, Bool.true_or, isi1, isi2, isi3, isi4, isi5, isi6, ok_int, deq_int, view_int, view_fr, view_str, ok_fr, eq_fr, view_tup, view_lst, ty_fr, tyN, List.any_cons, List.any_nil, atI_0, atI_1, atI_2, atI_3, atI_n, most, runB_rt, runB_nx, fin_same, tabD]) ?_
  unfold sums
  rw [List.map_map]
  refine lc_mapR rowD _ (fun r hr => ?_) (by rw [v.len]; unfold most; omega)
  have e1 := l_dot (N := N) (h := h) (K := j) hj hN (a := r) (b := c) (hp r hr) hc (by rw [(v.row r hr).1]; omega)
  simp only [gnF, g__law_best_3, dSs, dS_expr, dS_ret, dS_retN, dS_asg, dS_par, dS_aug, dS_ite, dS_for, dS_wh, dS_pass, dS_brk, dS_cnt, dP, dPs, dI, dG, dGs, dGn_eq, dB, cSeq, cRet, cExpr, cAsg, cPar, setAll, cAug, augI, cIte, aVar, aC, tst, aTup, aLst, aBin, aNeg, aCmp, aChain, aNot, aIte, aIx, aO, aSl, dCut, aCall, aCallk, aBi, aMeth, aFin, aEl, aOT, aSeq, aRange1_eq, aEnum, aZip, wipeE, List.foldl_cons, List.foldl_nil, aCons, aStar, aAndV, aOrV, aAnd, aOr, aNotT, gNm, gTp, gNl, gCn, dIx, seqOf, lstOf, zsrc, dBI, dB1, dB2, Rz.fin, truth, dc_eq_int, dc_ne_int, dc_eq_fr, dc_eq_str, dc_ne_str, dc_lt, dc_le, dc_gt, dc_ge, dc_is, dc_isn, dBin, List.getElem?_cons_zero, List.getElem?_cons_succ, List.set_cons_zero, List.set_cons_succ, List.map_cons, List.map_nil, List.length_cons, List.length_nil, List.replicate, List.cons_append, List.nil_append, List.append_nil, Nat.reduceAdd, Nat.reduceSub, Nat.sub_self, Nat.reduceLeDiff, if_true, if_false, Bool.false_eq_true, reduceIte, Int.cast_ofNat_Int, eq_self, decide_true, decide_false, Bool.not_true, Bool.not_false, Bool.and_self, Bool.and_true, Bool.true_and, Bool.and_false, Bool.false_and, Bool.or_false, Bool.false_or, Bool.or_true, Bool.true_or, isi1, isi2, isi3, isi4, isi5, isi6, ok_int, deq_int, view_int, view_fr, view_str, ok_fr, eq_fr, view_tup, view_lst, ty_fr, tyN, List.any_cons, List.any_nil, atI_0, atI_1, atI_2, atI_3, atI_n, most, runB_rt, runB_nx, fin_same, e1, Function.comp_apply]
theorem l_best (hK : 4 ≤ K) (hN : 1000000 ≤ N) (v : Tb n m P) (hp : ∀ r ∈ P, ∀ x ∈ r, Sz 900 x) (hc : ∀ x ∈ c, Sz 900 x) (hm : m ≤ 50) (hn : n ≤ 50) : cF tb N K "_law_best" [tabD P, rowD c] h = some (.lst ((bestN (sums P c)).map fun i => .int (i : Nat)), h) := by
  obtain ⟨j, rfl, hj⟩ := dep hK
  rw [call_at lk__law_best (by rfl)]
  have szs : ∀ y ∈ sums P c, Sz big y := fun y hy => by
    obtain ⟨r, hr, rfl⟩ := List.mem_map.mp hy
    exact sz_dot (fun x hx => (hp r hr x hx).mono (by decide)) (fun x hx => (hc x hx).mono (by decide)) (by rw [(v.row r hr).1]; omega)
  have len : (sums P c).length = m := by rw [sums_len, v.len]
  have ob := out_best (N := N) (h := h) (j := j) (e0 := some (tabD P)) (e1 := some (rowD c)) (e3 := none) (e4 := none) (e5 := none) (by omega) szs (by rw [len]; exact hm)
  have rn := rng1_nat (h := h) (n := (sums P c).length) (by omega)
  have src := src_lbest (h := h) (cf := cF tb N j) (xs := P.map rowD) (e1 := some (rowD c)) (e2 := some (.lst ((sums P c).map fr))) (e3 := none) (e4 := none) (e5 := none)
  rw [List.length_map, ← sums_len (P := P) (c := c), rn] at src
  exact run_lbest (lc_lbest hj hN v hp hc hm hn) (gn_of src ob)
/-! ### choice -/
theorem forL_find {β : Type} {f : D → En → AH → Option Out} {h : AH} (rd : β → D) (p : β → Bool) (st : Option D → En) (R : β → D) : ∀ (l : List β) (z : Option D) (b : β), (∀ b ∈ l, ∀ z, (p b = true → f (rd b) (st z) h = some (.rt (R b) h)) ∧ (p b = false → f (rd b) (st z) h = some (.nx (st (some (rd b))) h))) →
    l.find? p = some b → forL none f (l.map rd) (st z) h = some (.rt (R b) h)
  | [], z, b, _, e => by cases e
  | a :: l, z, b, H, e => by
    rw [List.map_cons]
    unfold forL
    rw [if_pos (by exact trivial)]
    cases pa : p a with
    | true =>
      rw [List.find?_cons_of_pos pa] at e
      cases e
      rw [(H a List.mem_cons_self z).1 pa]
    | false =>
      rw [List.find?_cons_of_neg (by rw [pa]; simp)] at e
      rw [(H a List.mem_cons_self z).2 pa]
      exact forL_find rd p st R l (some (rd a)) b (fun b hb => H b (List.mem_cons_of_mem _ hb)) e
theorem in_choice {j i : Nat} {e0 e1 e2 e5 e6 : Option D} {l : List Rat} (hj : 1 ≤ j) (hl : ∀ y ∈ l, Sz big y) (hn : l.length ≤ 50) (hi : i < l.length) :
    dGn (cF tb N j) g__law_choice_1 [e0, e1, e2, some (.lst (l.map fr)), some (.int (i : Nat)), e5, e6] h = some (l.map fun x => .bl (decide (l.getD i 0 < x)), h) := by
  refine gn_of (ds := l.map fr) (ck := none) (h1 := h) ?_ (lc_mapR fr _ (fun x hx => ?_) (by unfold most; omega))
  · simp only [gs__law_choice_1, dSs, dS_expr, dS_ret, dS_retN, dS_asg, dS_par, dS_aug, dS_ite, dS_for, dS_wh, dS_pass, dS_brk, dS_cnt, dP, dPs, dI, dG, dGs, dGn_eq, dB, cSeq, cRet, cExpr, cAsg, cPar, setAll, cAug, augI, cIte, aVar, aC, tst, aTup, aLst, aBin, aNeg, aCmp, aChain, aNot, aIte, aIx, aO, aSl, dCut, aCall, aCallk, aBi, aMeth, aFin, aEl, aOT, aSeq, aRange1_eq, aEnum, aZip, wipeE, List.foldl_cons, List.foldl_nil, aCons, aStar, aAndV, aOrV, aAnd, aOr, aNotT, gNm, gTp, gNl, gCn, dIx, seqOf, lstOf, zsrc, dBI, dB1, dB2, Rz.fin, truth, dc_eq_int, dc_ne_int, dc_eq_fr, dc_eq_str, dc_ne_str, dc_lt, dc_le, dc_gt, dc_ge, dc_is, dc_isn, dBin, List.getElem?_cons_zero, List.getElem?_cons_succ, List.set_cons_zero, List.set_cons_succ, List.map_cons, List.map_nil, List.length_cons, List.length_nil, List.replicate, List.cons_append, List.nil_append, List.append_nil, Nat.reduceAdd, Nat.reduceSub, Nat.sub_self, Nat.reduceLeDiff, if_true, if_false, Bool.false_eq_true, reduceIte, Int.cast_ofNat_Int, eq_self, decide_true, decide_false, Bool.not_true, Bool.not_false, Bool.and_self, Bool.and_true, Bool.true_and, Bool.and_false, Bool.false_and, Bool.or_false, Bool.false_or, Bool.or_true, Bool.true_or, isi1, isi2, isi3, isi4, isi5, isi6, ok_int, deq_int, view_int, view_fr, view_str, ok_fr, eq_fr, view_tup, view_lst, ty_fr, tyN, List.any_cons, List.any_nil, atI_0, atI_1, atI_2, atI_3, atI_n, most, runB_rt, runB_nx, fin_same]
  · have hm : l.getD i 0 ∈ l := by
      rw [List.getD_eq_getElem?_getD, List.getElem?_eq_getElem hi]
      exact List.getElem_mem hi
    simp only [gnF, g__law_choice_1, dSs, dS_expr, dS_ret, dS_retN, dS_asg, dS_par, dS_aug, dS_ite, dS_for, dS_wh, dS_pass, dS_brk, dS_cnt, dP, dPs, dI, dG, dGs, dGn_eq, dB, cSeq, cRet, cExpr, cAsg, cPar, setAll, cAug, augI, cIte, aVar, aC, tst, aTup, aLst, aBin, aNeg, aCmp, aChain, aNot, aIte, aIx, aO, aSl, dCut, aCall, aCallk, aBi, aMeth, aFin, aEl, aOT, aSeq, aRange1_eq, aEnum, aZip, wipeE, List.foldl_cons, List.foldl_nil, aCons, aStar, aAndV, aOrV, aAnd, aOr, aNotT, gNm, gTp, gNl, gCn, dIx, seqOf, lstOf, zsrc, dBI, dB1, dB2, Rz.fin, truth, dc_eq_int, dc_ne_int, dc_eq_fr, dc_eq_str, dc_ne_str, dc_lt, dc_le, dc_gt, dc_ge, dc_is, dc_isn, dBin, List.getElem?_cons_zero, List.getElem?_cons_succ, List.set_cons_zero, List.set_cons_succ, List.map_cons, List.map_nil, List.length_cons, List.length_nil, List.replicate, List.cons_append, List.nil_append, List.append_nil, Nat.reduceAdd, Nat.reduceSub, Nat.sub_self, Nat.reduceLeDiff, if_true, if_false, Bool.false_eq_true, reduceIte, Int.cast_ofNat_Int, eq_self, decide_true, decide_false, Bool.not_true, Bool.not_false, Bool.and_self, Bool.and_true, Bool.true_and, Bool.and_false, Bool.false_and, Bool.or_false, Bool.false_or, Bool.or_true, Bool.true_or, isi1, isi2, isi3, isi4, isi5, isi6, ok_int, deq_int, view_int, view_fr, view_str, ok_fr, eq_fr, view_tup, view_lst, ty_fr, tyN, List.any_cons, List.any_nil, atI_0, atI_1, atI_2, atI_3, atI_n, most, runB_rt, runB_nx, fin_same, getD_fr hi, l_below (N := N) (h := h) (K := j) hj (hl _ hm) (hl x hx)]
theorem loop_choice {j : Nat} {e0 e1 e5 e6 : Option D} {l : List Rat} {bs : List Nat} (hj : 1 ≤ j) (hl : ∀ y ∈ l, Sz big y) (hn : l.length ≤ 50) (hb : bs.length = l.length) {i : Nat} (hf : (List.range l.length).find? (fun i => !(l.any fun x => decide (l.getD i 0 < x))) = some i) :
    forL none (bodyF (cF tb N j) N (.name 4) b__law_choice_1) ((List.range l.length).map fun i => .int (i : Nat)) [e0, e1, some (.lst (bs.map fun i => .int (i : Nat))), some (.lst (l.map fr)), none, e5, e6] h = some (.rt (.tup [.int (bs.getD i 0 : Nat), fr (l.getD i 0)]) h) := by
  refine forL_find (fun i : Nat => D.int (i : Nat)) (fun i => !(l.any fun x => decide (l.getD i 0 < x))) (fun z => [e0, e1, some (.lst (bs.map fun i => .int (i : Nat))), some (.lst (l.map fr)), z, e5, e6]) (fun i => .tup [.int (bs.getD i 0 : Nat), fr (l.getD i 0)]) _ none i (fun i hi z => ?_) hf
  rw [List.mem_range] at hi
  have q := in_choice (N := N) (h := h) (j := j) (i := i) (e0 := e0) (e1 := e1) (e2 := some (.lst (bs.map fun i => .int (i : Nat)))) (e5 := e5) (e6 := e6) hj hl hn hi
  have b := bls_map (fun x => decide (l.getD i 0 < x)) l
  have hi2 : i < bs.length := by omega
  have gb : (bs.map fun i => D.int (i : Nat))[i]? = some (.int (bs.getD i 0 : Nat)) := by
    rw [List.getElem?_map, List.getD_eq_getElem?_getD, List.getElem?_eq_getElem hi2] <;> rfl
  refine ⟨fun y => ?_, fun y => ?_⟩
  · have y2 : (l.any fun x => decide (l.getD i 0 < x)) = false := by simpa using y
    simp only [bodyF, b__law_choice_1, dSs, dS_expr, dS_ret, dS_retN, dS_asg, dS_par, dS_aug, dS_ite, dS_for, dS_wh, dS_pass, dS_brk, dS_cnt, dP, dPs, dI, dG, dGs, dB, cSeq, cRet, cExpr, cAsg, cPar, setAll, cAug, augI, cIte, aVar, aC, tst, aTup, aLst, aBin, aNeg, aCmp, aChain, aNot, aIte, aIx, aO, aSl, dCut, aCall, aCallk, aBi, aMeth, aFin, aEl, aOT, aSeq, aRange1_eq, aEnum, aZip, wipeE, List.foldl_cons, List.foldl_nil, aCons, aStar, aAndV, aOrV, aAnd, aOr, aNotT, gNm, gTp, gNl, gCn, dIx, seqOf, lstOf, zsrc, dBI, dB1, dB2, Rz.fin, truth, dc_eq_int, dc_ne_int, dc_eq_fr, dc_eq_str, dc_ne_str, dc_lt, dc_le, dc_gt, dc_ge, dc_is, dc_isn, dBin, List.getElem?_cons_zero, List.getElem?_cons_succ, List.set_cons_zero, List.set_cons_succ, List.map_cons, List.map_nil, List.length_cons, List.length_nil, List.replicate, List.cons_append, List.nil_append, List.append_nil, Nat.reduceAdd, Nat.reduceSub, Nat.sub_self, Nat.reduceLeDiff, if_true, if_false, Bool.false_eq_true, reduceIte, Int.cast_ofNat_Int, eq_self, decide_true, decide_false, Bool.not_true, Bool.not_false, Bool.and_self, Bool.and_true, Bool.true_and, Bool.and_false, Bool.false_and, Bool.or_false, Bool.false_or, Bool.or_true, Bool.true_or, isi1, isi2, isi3, isi4, isi5, isi6, ok_int, deq_int, view_int, view_fr, view_str, ok_fr, eq_fr, view_tup, view_lst, ty_fr, tyN, List.any_cons, List.any_nil, atI_0, atI_1, atI_2, atI_3, atI_n, most, runB_rt, runB_nx, fin_same, q, b, any_map, y2, gb, getD_fr hi]
  · have y2 : (l.any fun x => decide (l.getD i 0 < x)) = true := by simpa using y
    simp only [bodyF, b__law_choice_1, dSs, dS_expr, dS_ret, dS_retN, dS_asg, dS_par, dS_aug, dS_ite, dS_for, dS_wh, dS_pass, dS_brk, dS_cnt, dP, dPs, dI, dG, dGs, dB, cSeq, cRet, cExpr, cAsg, cPar, setAll, cAug, augI, cIte, aVar, aC, tst, aTup, aLst, aBin, aNeg, aCmp, aChain, aNot, aIte, aIx, aO, aSl, dCut, aCall, aCallk, aBi, aMeth, aFin, aEl, aOT, aSeq, aRange1_eq, aEnum, aZip, wipeE, List.foldl_cons, List.foldl_nil, aCons, aStar, aAndV, aOrV, aAnd, aOr, aNotT, gNm, gTp, gNl, gCn, dIx, seqOf, lstOf, zsrc, dBI, dB1, dB2, Rz.fin, truth, dc_eq_int, dc_ne_int, dc_eq_fr, dc_eq_str, dc_ne_str, dc_lt, dc_le, dc_gt, dc_ge, dc_is, dc_isn, dBin, List.getElem?_cons_zero, List.getElem?_cons_succ, List.set_cons_zero, List.set_cons_succ, List.map_cons, List.map_nil, List.length_cons, List.length_nil, List.replicate, List.cons_append, List.nil_append, List.append_nil, Nat.reduceAdd, Nat.reduceSub, Nat.sub_self, Nat.reduceLeDiff, if_true, if_false, Bool.false_eq_true, reduceIte, Int.cast_ofNat_Int, eq_self, decide_true, decide_false, Bool.not_true, Bool.not_false, Bool.and_self, Bool.and_true, Bool.true_and, Bool.and_false, Bool.false_and, Bool.or_false, Bool.false_or, Bool.or_true, Bool.true_or, isi1, isi2, isi3, isi4, isi5, isi6, ok_int, deq_int, view_int, view_fr, view_str, ok_fr, eq_fr, view_tup, view_lst, ty_fr, tyN, List.any_cons, List.any_nil, atI_0, atI_1, atI_2, atI_3, atI_n, most, runB_rt, runB_nx, fin_same, q, b, any_map, y2]
end Row
namespace Row
open PySem PySem.Spec PyProof.Rows L2 Ev
variable {N K : Nat} {h : AH} {P W : List (List Rat)} {n m : Nat} {c : List Rat}
theorem wsR_len : (wsR P W c).length = (bestN (sums P c)).length := by unfold wsR; rw [List.length_map]
theorem wsR_at {i : Nat} (hi : i < (bestN (sums P c)).length) : (wsR P W c).getD i 0 = dotR (nth W ((bestN (sums P c)).getD i 0)) c := by
  unfold wsR
  rw [List.getD_eq_getElem?_getD, List.getElem?_map, List.getD_eq_getElem?_getD, List.getElem?_eq_getElem hi] <;> rfl
theorem range_map (l : List Nat) : (List.range l.length).map (fun i => l.getD i 0) = l := by
  apply List.ext_getElem?
  intro i
  rw [List.getElem?_map]
  by_cases hi : i < l.length
  · rw [List.getElem?_eq_getElem hi, List.getElem?_range hi]
    simp [hi]
  · rw [List.getElem?_eq_none (l := List.range l.length) (by rw [List.length_range]; omega), List.getElem?_eq_none (by omega)] <;> rfl
theorem first_of {bs : List Nat} {p q : Nat → Bool} {a : Nat} {r : List Nat} (hq : ∀ i, i < bs.length → q i = p (bs.getD i 0)) (e : bs.filter p = a :: r) : ∃ i, (List.range bs.length).find? q = some i ∧ bs.getD i 0 = a ∧ i < bs.length ∧ p a = true := by
  have e1 : bs.find? p = some a := by rw [← List.head?_filter, e] <;> rfl
  have pa : p a = true := List.find?_some e1
  have e2 : ((List.range bs.length).map (fun i => bs.getD i 0)).find? p = some a := by rw [range_map]; exact e1
  rw [List.find?_map, Option.map_eq_some_iff] at e2
  obtain ⟨i, e3, e4⟩ := e2
  have e5 : (List.range bs.length).find? q = some i := by
    rw [← e3, ← List.head?_filter, ← List.head?_filter]
    congr 1
    refine List.filter_congr fun k hk => ?_
    rw [List.mem_range] at hk
    exact hq k hk
  exact ⟨i, e5, e4, by have := List.mem_of_find?_eq_some e3; rw [List.mem_range] at this; exact this, pa⟩
theorem any_mx {l : List Rat} {i : Nat} (hi : i < l.length) : (!(l.any fun x => decide (l.getD i 0 < x))) = decide (l.getD i 0 = mx l) := by
  have e := bestL_eq l
  rw [bestN_range] at e
  unfold bestL at e
  have m1 := congrArg (fun z => decide (i ∈ z)) e
  simp only [List.mem_filter, List.mem_range, hi, true_and] at m1
  rw [Bool.eq_iff_iff]
  have := decide_eq_decide.1 m1
  exact this
theorem run_lchoice {j : Nat} {x p y bs o : D} {wl lst : List D} {k : Int} (hx : dIx h x (.int 0) = some p) (hb : cF tb N j "_law_best" [p, y] h = some (bs, h)) (q1 : dGn (cF tb N j) g__law_choice_2 [some x, some y, some bs, none, none, none, none] h = some (wl, h))
    (hl : dBI h .len [bs] = some (.val (.int k))) (rn : rng1 k h = some (lst, none, h)) (lp : forL none (bodyF (cF tb N j) N (.name 4) b__law_choice_1) lst [some x, some y, some bs, some (.lst wl), none, none, none] h = some (.rt o h)) :
    runB false (dSs (cF tb N j) N b__law_choice ([x, y].map some ++ List.replicate (7 - [x, y].length) none) h) h = some (o, h) := by
  simp only [b__law_choice, dSs, dS_expr, dS_ret, dS_retN, dS_asg, dS_par, dS_aug, dS_ite, dS_for, dS_wh, dS_pass, dS_brk, dS_cnt, dP, dPs, dI, dG, dGs, dB, cSeq, cRet, cExpr, cAsg, cPar, setAll, cAug, augI, cIte, aVar, aC, tst, aTup, aLst, aBin, aNeg, aCmp, aChain, aNot, aIte, aIx, aO, aSl, dCut, aCall, aCallk, aBi, aMeth, aFin, aEl, aOT, aSeq, aRange1_eq, aEnum, aZip, wipeE, List.foldl_cons, List.foldl_nil, aCons, aStar, aAndV, aOrV, aAnd, aOr, aNotT, gNm, gTp, gNl, gCn, Rz.fin, truth, dc_eq_int, dc_ne_int, dc_eq_fr, dc_eq_str, dc_ne_str, dc_lt, dc_le, dc_gt, dc_ge, dc_is, dc_isn, dBin, List.getElem?_cons_zero, List.getElem?_cons_succ, List.set_cons_zero, List.set_cons_succ, List.map_cons, List.map_nil, List.length_cons, List.length_nil, List.replicate, List.cons_append, List.nil_append, List.append_nil, Nat.reduceAdd, Nat.reduceSub, Nat.sub_self, Nat.reduceLeDiff, if_true, if_false, Bool.false_eq_true, reduceIte, Int.cast_ofNat_Int, eq_self, decide_true, decide_false, Bool.not_true, Bool.not_false, Bool.and_self, Bool.and_true, Bool.true_and, Bool.and_false, Bool.false_and, Bool.or_false, Bool.false_or, Bool.or_true, Bool.true_or, isi1, isi2, isi3, isi4, isi5, isi6, ok_int, deq_int, view_int, view_fr, view_str, ok_fr, eq_fr, view_tup, view_lst, ty_fr, tyN, List.any_cons, List.any_nil, atI_0, atI_1, atI_2, atI_3, atI_n, most, runB_rt, runB_nx, fin_same, hx, hb, q1, hl, rn, lp]
theorem l_choice (hK : 5 ≤ K) (hN : 1000000 ≤ N) (v : Vs n m P W) (vc : Ch n c) (hp : ∀ r ∈ P, ∀ x ∈ r, Sz 900 x) (hw : ∀ r ∈ W, ∀ x ∈ r, Sz 900 x) (hc : ∀ x ∈ c, Sz 900 x) {a : Nat} {r : List Nat} (e : choiceN P W c = a :: r) :
    cF tb N K "_law_choice" [setD P W, rowD c] h = some (.tup [.int (a : Nat), fr (mx (wsR P W c))], h) := by
  obtain ⟨j, rfl, hj⟩ := dep hK
  rw [call_at lk__law_choice (by rfl)]
  have hm5 := v.m5
  have hn4 := v.n4
  have hb := l_best (N := N) (h := h) hj hN v.p hp hc (by omega) (by omega)
  have bl := bestN_len (l := sums P c)
  rw [sums_len, v.p.len] at bl
  have q1 : dGn (cF tb N j) g__law_choice_2 [some (setD P W), some (rowD c), some (.lst ((bestN (sums P c)).map fun i => .int (i : Nat))), none, none, none, none] h = some ((wsR P W c).map fr, h) := by
    refine gn_of (ds := (bestN (sums P c)).map fun i => .int (i : Nat)) (ck := none) (h1 := h) (by simp only [gs__law_choice_2, dSs, dS_expr, dS_ret, dS_retN, dS_asg, dS_par, dS_aug, dS_ite, dS_for, dS_wh, dS_pass, dS_brk, dS_cnt, dP, dPs, dI, dG, dGs, dGn_eq, dB, cSeq, cRet, cExpr, cAsg, cPar, setAll, cAug, augI, cIte, aVar, aC, tst, aTup, aLst, aBin, aNeg, aCmp, aChain, aNot, aIte, aIx, aO, aSl, dCut, aCall, aCallk, aBi, aMeth, aFin, aEl, aOT, aSeq, aRange1_eq, aEnum, aZip, wipeE, List.foldl_cons, List.foldl_nil, aCons, aStar, aAndV, aOrV, aAnd, aOr, aNotT, gNm, gTp, gNl, gCn, dIx, seqOf, lstOf, zsrc, dBI, dB1, dB2, Rz.fin, truth, dc_eq_int, dc_ne_int, dc_eq_fr, dc_eq_str, dc_ne_str, dc_lt, dc_le, dc_gt, dc_ge, dc_is, dc_isn, dBin, List.getElem?_cons_zero, List.getElem?_cons_succ, List.set_cons_zero, List.set_cons_succ, List.map_cons, List.map_nil, List.length_cons, List.length_nil, List.replicate, List.cons_append, List.nil_append, List.append_nil, Nat.reduceAdd, Nat.reduceSub, Nat.sub_self, Nat.reduceLeDiff, if_true, if_false, Bool.false_eq_true, reduceIte, Int.cast_ofNat_Int, eq_self, decide_true, decide_false, Bool.not_true, Bool.not_false, Bool.and_self, Bool.and_true, Bool.true_and, Bool.and_false, Bool.false_and, Bool.or_false, Bool.false_or, Bool.or_true, Bool.true_or, isi1, isi2, isi3, isi4, isi5, isi6, ok_int, deq_int, view_int, view_fr, view_str, ok_fr, eq_fr, view_tup, view_lst, ty_fr, tyN, List.any_cons, List.any_nil, atI_0, atI_1, atI_2, atI_3, atI_n, most, runB_rt, runB_nx, fin_same]) ?_
    unfold wsR
    rw [List.map_map]
    refine lc_mapR (fun i : Nat => D.int (i : Nat)) _ (fun i hi => ?_) (best_few v)
    obtain ⟨r0, g1, g2, g3⟩ := at_tab v.w (best_lt v.p hi)
    have e4 := l_dot (N := N) (h := h) (K := j) (by omega) hN (a := r0) (b := c) (hw r0 g2) hc (by omega)
    simp only [gnF, g__law_choice_2, dSs, dS_expr, dS_ret, dS_retN, dS_asg, dS_par, dS_aug, dS_ite, dS_for, dS_wh, dS_pass, dS_brk, dS_cnt, dP, dPs, dI, dG, dGs, dGn_eq, dB, cSeq, cRet, cExpr, cAsg, cPar, setAll, cAug, augI, cIte, aVar, aC, tst, aTup, aLst, aBin, aNeg, aCmp, aChain, aNot, aIte, aIx, aO, aSl, dCut, aCall, aCallk, aBi, aMeth, aFin, aEl, aOT, aSeq, aRange1_eq, aEnum, aZip, wipeE, List.foldl_cons, List.foldl_nil, aCons, aStar, aAndV, aOrV, aAnd, aOr, aNotT, gNm, gTp, gNl, gCn, dIx, seqOf, lstOf, zsrc, dBI, dB1, dB2, Rz.fin, truth, dc_eq_int, dc_ne_int, dc_eq_fr, dc_eq_str, dc_ne_str, dc_lt, dc_le, dc_gt, dc_ge, dc_is, dc_isn, dBin, List.getElem?_cons_zero, List.getElem?_cons_succ, List.set_cons_zero, List.set_cons_succ, List.map_cons, List.map_nil, List.length_cons, List.length_nil, List.replicate, List.cons_append, List.nil_append, List.append_nil, Nat.reduceAdd, Nat.reduceSub, Nat.sub_self, Nat.reduceLeDiff, if_true, if_false, Bool.false_eq_true, reduceIte, Int.cast_ofNat_Int, eq_self, decide_true, decide_false, Bool.not_true, Bool.not_false, Bool.and_self, Bool.and_true, Bool.true_and, Bool.and_false, Bool.false_and, Bool.or_false, Bool.false_or, Bool.or_true, Bool.true_or, isi1, isi2, isi3, isi4, isi5, isi6, ok_int, deq_int, view_int, view_fr, view_str, ok_fr, eq_fr, view_tup, view_lst, ty_fr, tyN, List.any_cons, List.any_nil, atI_0, atI_1, atI_2, atI_3, atI_n, most, runB_rt, runB_nx, fin_same, setD, tabD, List.getElem?_map, g1, Option.map_some, e4, Function.comp_apply, nth_at g1]
  obtain ⟨i, f1, f2, f3, f4⟩ := first_of (bs := bestN (sums P c)) (p := fun a => decide (dotR (nth W a) c = mx (wsR P W c))) (q := fun i => !((wsR P W c).any fun x => decide ((wsR P W c).getD i 0 < x))) (fun i hi => by rw [any_mx (by rw [wsR_len]; exact hi), wsR_at hi]) e
  rw [← wsR_len] at f1
  have lp := loop_choice (N := N) (h := h) (j := j) (e0 := some (setD P W)) (e1 := some (rowD c)) (e5 := none) (e6 := none) (bs := bestN (sums P c)) (by omega) (sz_ws v vc) (by rw [wsR_len]; omega) wsR_len.symm f1
  rw [f2, wsR_at f3, f2] at lp
  rw [decide_eq_true_eq] at f4
  rw [f4] at lp
  have rn := rng1_nat (h := h) (n := ((bestN (sums P c)).map fun i => D.int (i : Nat)).length) (by rw [List.length_map]; omega)
  have e9 : (wsR P W c).length = ((bestN (sums P c)).map fun i => D.int (i : Nat)).length := by rw [wsR_len, List.length_map]
  rw [e9] at lp
  exact run_lchoice (by rfl) hb q1 (by rfl) rn lp
end Row
namespace Row
open PySem PySem.Spec PyProof.Rows L2 Ev
variable {N K : Nat} {h : AH} {P W : List (List Rat)} {n m : Nat} {c : List Rat}
/-! ### texts of small data -/
mutual
def smD : D → Bool
  | .non => true | .bl _ => true | .int i => decide (i.natAbs.log2 < 1000) | .str _ => false | .tup xs => smDs xs | .lst xs => smDs xs | .ref _ => false | .scr _ => false
def smDs : List D → Bool
  | [] => true | x :: xs => smD x && smDs xs
end
mutual
def wtD : D → Nat
  | .int _ => 1000 | .tup xs => wtDs xs | .lst xs => wtDs xs | _ => 0
def wtDs : List D → Nat
  | [] => 0 | x :: xs => wtD x + 1 + wtDs xs
end
mutual
def dpD : D → Nat
  | .tup xs => dpDs xs + 1 | .lst xs => dpDs xs + 1 | _ => 0
def dpDs : List D → Nat
  | [] => 0 | x :: xs => max (dpD x) (dpDs xs)
end
theorem int_shown {i : Int} (hi : i.natAbs.log2 < 1000) : (PyData.shown (.int i)).length ≤ 1001 := by
  have e := int_text_length_le (k := 1000) (by decide) hi
  show (Str.ofString (toString i)).length ≤ 1001
  rw [PySem.ofString_length]
  exact e
mutual
theorem smD_ok : ∀ d : D, smD d = true → d.cl = true ∧ d.py.showable = true ∧ d.py.leavesShort 1001 = true ∧ d.py.weight ≤ wtD d ∧ d.py.depth ≤ dpD d
  | .non, _ => ⟨rfl, rfl, rfl, Nat.le_refl _, Nat.le_refl _⟩
  | .bl _, _ => ⟨rfl, rfl, rfl, Nat.le_refl _, Nat.le_refl _⟩
  | .int i, e => by
    simp only [smD, decide_eq_true_eq] at e
    refine ⟨rfl, ?_, ?_, ?_, Nat.le_refl _⟩
    · simp only [D.py, PyData.showable, decide_eq_true_eq]
      omega
    · simp only [D.py, PyData.leavesShort, decide_eq_true_eq]
      exact int_shown e
    · simp only [D.py, PyData.weight, wtD]
      split <;> omega
  | .str _, e => by cases e
  | .ref _, e => by cases e
  | .scr _, e => by cases e
  | .tup xs, e => by
    obtain ⟨a, b, c, d, f⟩ := smDs_ok xs (by simpa only [smD] using e)
    refine ⟨by simpa only [D.cl] using a, by simpa only [D.py, PyData.showable] using b, by simpa only [D.py, PyData.leavesShort] using c, by simpa only [D.py, PyData.weight, wtD] using d, ?_⟩
    simp only [D.py, PyData.depth, dpD]
    omega
  | .lst xs, e => by
    obtain ⟨a, b, c, d, f⟩ := smDs_ok xs (by simpa only [smD] using e)
    refine ⟨by simpa only [D.cl] using a, by simpa only [D.py, PyData.showable] using b, by simpa only [D.py, PyData.leavesShort] using c, by simpa only [D.py, PyData.weight, wtD] using d, ?_⟩
    simp only [D.py, PyData.depth, dpD]
    omega
theorem smDs_ok : ∀ ds : List D, smDs ds = true → D.cls ds = true ∧ PyData.showableAll (D.pys ds) = true ∧ PyData.leavesShortAll 1001 (D.pys ds) = true ∧ PyData.weightAll (D.pys ds) ≤ wtDs ds ∧ PyData.depthAll (D.pys ds) ≤ dpDs ds
  | [], _ => ⟨rfl, rfl, rfl, Nat.le_refl _, Nat.le_refl _⟩
  | x :: xs, e => by
    simp only [smDs, Bool.and_eq_true] at e
    obtain ⟨a, b, c, d, f⟩ := smD_ok x e.1
    obtain ⟨a2, b2, c2, d2, f2⟩ := smDs_ok xs e.2
    refine ⟨by simp only [D.cls, a, a2, Bool.and_self], by simp only [D.pys, PyData.showableAll, b, b2, Bool.and_self], by simp only [D.pys, PyData.leavesShortAll, c, c2, Bool.and_self], ?_, ?_⟩
    · simp only [D.pys, PyData.weightAll, wtDs]
      omega
    · simp only [D.pys, PyData.depthAll, dpDs]
      omega
end
theorem repOk_of {d : D} (s : isSeq d = true) (e : smD d = true) (w : wtD d ≤ 14000) (p : dpD d ≤ 100) : repOk d = true := by
  obtain ⟨a, b, c, g, f⟩ := smD_ok d e
  have l := PyData.shown_le 1001 (by decide) d.py c
  have l2 : d.py.shown.length ≤ 15000000 := by
    have : (1001 + 2) * d.py.weight ≤ (1001 + 2) * 14000 := Nat.mul_le_mul_left _ (by omega)
    omega
  unfold repOk
  simp only [s, a, b, l2, Bool.true_and, decide_true, Bool.and_true, decide_eq_true_eq]
  omega
theorem log_lt {i : Nat} {b : Nat} (hb : 0 < b) (h : i < 2 ^ b) : i.log2 < b := by
  by_cases z : i = 0
  · subst z; simpa using hb
  · exact (Nat.log2_lt z).2 h
theorem sm_fr {q : Rat} (hq : Sz 1000 q) : smD (fr q) = true ∧ wtD (fr q) = 2002 ∧ dpD (fr q) = 1 := by
  refine ⟨?_, rfl, rfl⟩
  simp only [fr, smD, smDs, Bool.and_true, Bool.and_eq_true, decide_eq_true_eq, Int.natAbs_natCast]
  exact ⟨log_lt (by decide) hq.1, log_lt (by decide) hq.2⟩
theorem sm_frs : ∀ {l : List Rat}, (∀ x ∈ l, Sz 1000 x) → smDs (l.map fr) = true ∧ wtDs (l.map fr) = 2003 * l.length ∧ dpDs (l.map fr) ≤ 1
  | [], _ => ⟨rfl, rfl, Nat.zero_le _⟩
  | x :: l, hl => by
    obtain ⟨a, b, c⟩ := sm_fr (hl x List.mem_cons_self)
    obtain ⟨a2, b2, c2⟩ := sm_frs (l := l) fun y hy => hl y (List.mem_cons_of_mem _ hy)
    refine ⟨by simp only [List.map_cons, smDs, a, a2, Bool.and_self], ?_, ?_⟩
    · simp only [List.map_cons, wtDs, List.length_cons, b, b2]
      omega
    · simp only [List.map_cons, dpDs, c]
      omega
theorem sm_ints : ∀ {l : List Nat}, (∀ x ∈ l, x < 1000) → smDs (l.map fun i => D.int (i : Nat)) = true ∧ wtDs (l.map fun i => D.int (i : Nat)) = 1001 * l.length ∧ dpDs (l.map fun i => D.int (i : Nat)) = 0
  | [], _ => ⟨rfl, rfl, rfl⟩
  | x :: l, hl => by
    obtain ⟨a2, b2, c2⟩ := sm_ints (l := l) fun y hy => hl y (List.mem_cons_of_mem _ hy)
    have hx := hl x List.mem_cons_self
    have lx : x.log2 < 1000 := log_lt (by decide) (Nat.lt_of_lt_of_le hx (Nat.le_trans (by decide : 1000 ≤ 2 ^ 10) (Nat.pow_le_pow_right (by decide) (by decide))))
    refine ⟨?_, ?_, ?_⟩
    · simp only [List.map_cons, smDs, smD, a2, Int.natAbs_natCast, lx, decide_true, Bool.and_self]
    · simp only [List.map_cons, wtDs, wtD, List.length_cons, b2]
      omega
    · simp only [List.map_cons, dpDs, dpD, c2]
      rfl
theorem rep_row {l : List Rat} (hl : ∀ x ∈ l, Sz 1000 x) (n5 : l.length ≤ 5) : repOk (.lst (l.map fr)) = true := by
  obtain ⟨a, b, c⟩ := sm_frs hl
  refine repOk_of rfl (by simpa only [smD] using a) ?_ ?_
  · simp only [wtD]; omega
  · simp only [dpD]; omega
theorem rep_told {bs : List Nat} {a : Nat} {v : Rat} (hb : ∀ x ∈ bs, x < 1000) (h5 : bs.length ≤ 5) (ha : a < 1000) (hv : Sz 1000 v) : repOk (.tup [.tup (bs.map fun i => .int (i : Nat)), .int (a : Nat), fr v]) = true ∧ repOk (.lst [.tup (bs.map fun i => .int (i : Nat)), .int (a : Nat), fr v]) = true := by
  obtain ⟨a1, b1, c1⟩ := sm_ints hb
  obtain ⟨a2, b2, c2⟩ := sm_fr hv
  have lx : a.log2 < 1000 := log_lt (by decide) (Nat.lt_of_lt_of_le ha (Nat.le_trans (by decide : 1000 ≤ 2 ^ 10) (Nat.pow_le_pow_right (by decide) (by decide))))
  have s : smDs [.tup (bs.map fun i => .int (i : Nat)), .int (a : Nat), fr v] = true := by simp only [smDs, smD, a1, a2, Int.natAbs_natCast, lx, decide_true, Bool.and_self]
  have w : wtDs [.tup (bs.map fun i => .int (i : Nat)), .int (a : Nat), fr v] ≤ 14000 := by
    simp only [wtDs, wtD, b1, b2]
    omega
  have d : dpDs [.tup (bs.map fun i => .int (i : Nat)), .int (a : Nat), fr v] ≤ 5 := by
    simp only [dpDs, dpD, c1, c2]
    omega
  exact ⟨repOk_of rfl (by simpa only [smD] using s) (by simpa only [wtD] using w) (by simp only [dpD]; omega), repOk_of rfl (by simpa only [smD] using s) (by simpa only [wtD] using w) (by simp only [dpD]; omega)⟩
/-! ### a quotient -/
theorem fr_div {x y : Rat} (hy : 0 < y.num) : fr (mkRat (x.num * y.den) ((x.den : Int) * y.num).toNat) = fr (x / y) := by
  obtain ⟨k, hk⟩ : ∃ k : Nat, y.num = k := ⟨y.num.toNat, by omega⟩
  have e1 : y⁻¹ = mkRat y.den k := by rw [Rat.inv_def, hk, Rat.divInt_ofNat]
  have e2 : ((x.den : Int) * y.num).toNat = x.den * k := by rw [hk, ← Int.natCast_mul, Int.toNat_natCast]
  rw [e2, Rat.div_def, e1]
  conv => rhs; rw [← Rat.mkRat_self x]
  rw [Rat.mkRat_mul_mkRat]
theorem l_over (hK : 2 ≤ K) (hN : 1000000 ≤ N) {x y : Rat} (hx : Sz med x) (hy : Sz med y) (h0 : 0 < y.num) : cF tb N K "_law_over" [fr x, fr y] h = some (fr (x / y), h) := by
  obtain ⟨j, rfl, hj⟩ := dep hK
  rw [call_at lk__law_over (by rfl)]
  have sz : ((x.den : Int) * y.num).natAbs < 2 ^ 400000 := by
    rw [Int.natAbs_mul, Int.natAbs_natCast]
    have p : x.den * y.num.natAbs < 2 ^ med * 2 ^ med := Nat.mul_lt_mul'' hx.2 hy.1
    rw [← Nat.pow_add] at p
    exact Nat.lt_of_lt_of_le p (Nat.pow_le_pow_right (by decide) (by decide))
  have e1 := e_lean (N := N) (h := h) hj hN (a := x.num * y.den) (Int.mul_pos (den_pos x) h0) sz
  rw [fr_div h0] at e1
  try simp only [b__law_over, dSs, dS_expr, dS_ret, dS_retN, dS_asg, dS_par, dS_aug, dS_ite, dS_for, dS_wh, dS_pass, dS_brk, dS_cnt, dP, dPs, dI, dG, dGs, dGn_eq, dB, cSeq, cRet, cExpr, cAsg, cPar, setAll, cAug, augI, cIte, aVar, aC, tst, aTup, aLst, aBin, aNeg, aCmp, aChain, aNot, aIte, aIx, aO, aSl, dCut, aCall, aCallk, aBi, aMeth, aFin, aEl, aOT, aSeq, aRange1_eq, aEnum, aZip, wipeE, List.foldl_cons, List.foldl_nil, aCons, aStar, aAndV, aOrV, aAnd, aOr, aNotT, gNm, gTp, gNl, gCn, dIx, seqOf, lstOf, zsrc, dBI, dB1, dB2, Rz.fin, truth, dc_eq_int, dc_ne_int, dc_eq_fr, dc_eq_str, dc_ne_str, dc_lt, dc_le, dc_gt, dc_ge, dc_is, dc_isn, dBin, List.getElem?_cons_zero, List.getElem?_cons_succ, List.set_cons_zero, List.set_cons_succ, List.map_cons, List.map_nil, List.length_cons, List.length_nil, List.replicate, List.cons_append, List.nil_append, List.append_nil, Nat.reduceAdd, Nat.reduceSub, Nat.sub_self, Nat.reduceLeDiff, if_true, if_false, Bool.false_eq_true, reduceIte, Int.cast_ofNat_Int, eq_self, decide_true, decide_false, Bool.not_true, Bool.not_false, Bool.and_self, Bool.and_true, Bool.true_and, Bool.and_false, Bool.false_and, Bool.or_false, Bool.false_or, Bool.or_true, Bool.true_or, isi1, isi2, isi3, isi4, isi5, isi6, ok_int, deq_int, view_int, view_fr, view_str, ok_fr, eq_fr, view_tup, view_lst, ty_fr, tyN, List.any_cons, List.any_nil, atI_0, atI_1, atI_2, atI_3, atI_n, most, runB_rt, runB_nx, fin_same, fr, mul_nd (med_big hx) (med_big hy), mul_dn (med_big hx) (med_big hy)] at e1
  try simp only [b__law_over, dSs, dS_expr, dS_ret, dS_retN, dS_asg, dS_par, dS_aug, dS_ite, dS_for, dS_wh, dS_pass, dS_brk, dS_cnt, dP, dPs, dI, dG, dGs, dGn_eq, dB, cSeq, cRet, cExpr, cAsg, cPar, setAll, cAug, augI, cIte, aVar, aC, tst, aTup, aLst, aBin, aNeg, aCmp, aChain, aNot, aIte, aIx, aO, aSl, dCut, aCall, aCallk, aBi, aMeth, aFin, aEl, aOT, aSeq, aRange1_eq, aEnum, aZip, wipeE, List.foldl_cons, List.foldl_nil, aCons, aStar, aAndV, aOrV, aAnd, aOr, aNotT, gNm, gTp, gNl, gCn, dIx, seqOf, lstOf, zsrc, dBI, dB1, dB2, Rz.fin, truth, dc_eq_int, dc_ne_int, dc_eq_fr, dc_eq_str, dc_ne_str, dc_lt, dc_le, dc_gt, dc_ge, dc_is, dc_isn, dBin, List.getElem?_cons_zero, List.getElem?_cons_succ, List.set_cons_zero, List.set_cons_succ, List.map_cons, List.map_nil, List.length_cons, List.length_nil, List.replicate, List.cons_append, List.nil_append, List.append_nil, Nat.reduceAdd, Nat.reduceSub, Nat.sub_self, Nat.reduceLeDiff, if_true, if_false, Bool.false_eq_true, reduceIte, Int.cast_ofNat_Int, eq_self, decide_true, decide_false, Bool.not_true, Bool.not_false, Bool.and_self, Bool.and_true, Bool.true_and, Bool.and_false, Bool.false_and, Bool.or_false, Bool.false_or, Bool.or_true, Bool.true_or, isi1, isi2, isi3, isi4, isi5, isi6, ok_int, deq_int, view_int, view_fr, view_str, ok_fr, eq_fr, view_tup, view_lst, ty_fr, tyN, List.any_cons, List.any_nil, atI_0, atI_1, atI_2, atI_3, atI_n, most, runB_rt, runB_nx, fin_same, fr, mul_nd (med_big hx) (med_big hy), mul_dn (med_big hx) (med_big hy)]
  simp only [e1, dSs, dS_expr, dS_ret, dS_retN, dS_asg, dS_par, dS_aug, dS_ite, dS_for, dS_wh, dS_pass, dS_brk, dS_cnt, dP, dPs, dI, dG, dGs, dGn_eq, dB, cSeq, cRet, cExpr, cAsg, cPar, setAll, cAug, augI, cIte, aVar, aC, tst, aTup, aLst, aBin, aNeg, aCmp, aChain, aNot, aIte, aIx, aO, aSl, dCut, aCall, aCallk, aBi, aMeth, aFin, aEl, aOT, aSeq, aRange1_eq, aEnum, aZip, wipeE, List.foldl_cons, List.foldl_nil, aCons, aStar, aAndV, aOrV, aAnd, aOr, aNotT, gNm, gTp, gNl, gCn, dIx, seqOf, lstOf, zsrc, dBI, dB1, dB2, Rz.fin, truth, dc_eq_int, dc_ne_int, dc_eq_fr, dc_eq_str, dc_ne_str, dc_lt, dc_le, dc_gt, dc_ge, dc_is, dc_isn, dBin, List.getElem?_cons_zero, List.getElem?_cons_succ, List.set_cons_zero, List.set_cons_succ, List.map_cons, List.map_nil, List.length_cons, List.length_nil, List.replicate, List.cons_append, List.nil_append, List.append_nil, Nat.reduceAdd, Nat.reduceSub, Nat.sub_self, Nat.reduceLeDiff, if_true, if_false, Bool.false_eq_true, reduceIte, Int.cast_ofNat_Int, eq_self, decide_true, decide_false, Bool.not_true, Bool.not_false, Bool.and_self, Bool.and_true, Bool.true_and, Bool.and_false, Bool.false_and, Bool.or_false, Bool.false_or, Bool.or_true, Bool.true_or, isi1, isi2, isi3, isi4, isi5, isi6, ok_int, deq_int, view_int, view_fr, view_str, ok_fr, eq_fr, view_tup, view_lst, ty_fr, tyN, List.any_cons, List.any_nil, atI_0, atI_1, atI_2, atI_3, atI_n, most, runB_rt, runB_nx, fin_same]
end Row
namespace Row
open PySem PySem.Spec PyProof.Rows L2 Ev
variable {N K : Nat} {h : AH} {P W : List (List Rat)} {n m : Nat} {c : List Rat}
theorem run_lthere {j : Nat} {x y p w bs due ba ch va : D} {l1 l2 al : List D} {k : Int} {s1 s2 s3 : Str} (hx0 : dIx h x (.int 0) = some p) (hx1 : dIx h x (.int 1) = some w)
    (hb : cF tb N j "_law_best" [p, y] h = some (bs, h)) (hc : cF tb N j "_law_choice" [x, y] h = some (due, h)) (hl : dBI h .len [p] = some (.val (.int k))) (hr : dBI h .listRange [.int k] = some (.new al))
    (q3 : dGn (cF tb N j) g__law_there_3 [some x, some y, some (.lst al), none, some bs, some due, none, none] h = some (l1, h)) (q4 : dGn (cF tb N j) g__law_there_4 [some x, some y, some (.lst al), none, some bs, some due, none, none] h = some (l1, h))
    (q1 : dGn (cF tb N j) g__law_there_1 [some x, some y, some (.lst al), none, some bs, some due, none, none] h = some (l2, h)) (q2 : dGn (cF tb N j) g__law_there_2 [some x, some y, some (.lst al), none, some bs, some due, none, none] h = some (l2, h))
    (r1 : dBI h .repr [.lst l1] = some (.val (.str s1))) (r2 : dBI h .repr [.lst l2] = some (.val (.str s2))) (r3 : dBI h .repr [.tup [ba, ch, va]] = some (.val (.str s3)))
    (c1 : cF tb N j "best_actions" [x, y] h = some (ba, h)) (c2 : cF tb N j "choice" [x, y] h = some (ch, h)) (c3 : cF tb N j "value" [x, y] h = some (va, h)) (ht : dBI h .tuple [bs] = some (.val ba)) (hd0 : dIx h due (.int 0) = some ch) (hd1 : dIx h due (.int 1) = some va) :
    runB false (dSs (cF tb N j) N b__law_there ([x, y].map some ++ List.replicate (8 - [x, y].length) none) h) h = some (.bl true, h) := by
  simp only [b__law_there, dSs, dS_expr, dS_ret, dS_retN, dS_asg, dS_par, dS_aug, dS_ite, dS_for, dS_wh, dS_pass, dS_brk, dS_cnt, dP, dPs, dI, dG, dGs, dB, cSeq, cRet, cExpr, cAsg, cPar, setAll, cAug, augI, cIte, aVar, aC, tst, aTup, aLst, aBin, aNeg, aCmp, aChain, aNot, aIte, aIx, aO, aSl, dCut, aCall, aCallk, aBi, aMeth, aFin, aEl, aOT, aSeq, aRange1_eq, aEnum, aZip, wipeE, List.foldl_cons, List.foldl_nil, aCons, aStar, aAndV, aOrV, aAnd, aOr, aNotT, gNm, gTp, gNl, gCn, Rz.fin, truth, dc_eq_int, dc_ne_int, dc_eq_fr, dc_eq_str, dc_ne_str, dc_lt, dc_le, dc_gt, dc_ge, dc_is, dc_isn, dBin, List.getElem?_cons_zero, List.getElem?_cons_succ, List.set_cons_zero, List.set_cons_succ, List.map_cons, List.map_nil, List.length_cons, List.length_nil, List.replicate, List.cons_append, List.nil_append, List.append_nil, Nat.reduceAdd, Nat.reduceSub, Nat.sub_self, Nat.reduceLeDiff, if_true, if_false, Bool.false_eq_true, reduceIte, Int.cast_ofNat_Int, eq_self, decide_true, decide_false, Bool.not_true, Bool.not_false, Bool.and_self, Bool.and_true, Bool.true_and, Bool.and_false, Bool.false_and, Bool.or_false, Bool.false_or, Bool.or_true, Bool.true_or, isi1, isi2, isi3, isi4, isi5, isi6, ok_int, deq_int, view_int, view_fr, view_str, ok_fr, eq_fr, view_tup, view_lst, ty_fr, tyN, List.any_cons, List.any_nil, atI_0, atI_1, atI_2, atI_3, atI_n, most, runB_rt, runB_nx, fin_same, hx0, hx1, hb, hc, hl, hr, q3, q4, q1, q2, r1, r2, r3, c1, c2, c3, ht, hd0, hd1, List.zip_cons_cons, List.zip_nil_left, List.zip_nil_right]
theorem nth_map (v : P.length = m) : ((List.range m).map fun a => dotR (nth P a) c) = sums P c := by
  subst v
  unfold sums
  apply List.ext_getElem?
  intro i
  rw [List.getElem?_map, List.getElem?_map]
  by_cases hi : i < P.length
  · rw [List.getElem?_range hi, List.getElem?_eq_getElem hi]
    simp only [Option.map_some]
    rw [nth_at (List.getElem?_eq_getElem hi)]
  · rw [List.getElem?_eq_none (l := List.range P.length) (by rw [List.length_range]; omega), List.getElem?_eq_none (by omega)] <;> rfl
/-- what the law may count on: a world and a measure of few short numbers -/
structure Wd (n m : Nat) (P W : List (List Rat)) (c : List Rat) : Prop where
  v : Vs n m P W
  ch : Ch n c
  p9 : ∀ r ∈ P, ∀ x ∈ r, Sz 900 x
  w9 : ∀ r ∈ W, ∀ x ∈ r, Sz 900 x
  c9 : ∀ x ∈ c, Sz 900 x
  sp : ∀ y ∈ sums P c, Sz 1000 y
  sw : ∀ y ∈ sums W c, Sz 1000 y
theorem rep_is {d : D} (ok : repOk (view h d) = true) : dBI h .repr [d] = some (.val (.str (view h d).py.shown)) := by
  unfold dBI dB1
  simp only
  rw [if_pos ok]
theorem bs_lt (v : Tb n m P) (hm : m ≤ 5) : ∀ x ∈ bestN (sums P c), x < 1000 := fun x hx => by
  have := best_lt v hx
  omega
theorem ws_sz (d : Wd n m P W c) : ∀ y ∈ wsR P W c, Sz 1000 y := fun y hy => by
  obtain ⟨a, ha, rfl⟩ := List.mem_map.mp hy
  obtain ⟨r, g1, g2, g3⟩ := at_tab d.v.w (best_lt d.v.p ha)
  rw [nth_at g1]
  exact d.sw _ (List.mem_map.mpr ⟨r, g2, rfl⟩)
theorem l_there (hK : 9 ≤ K) (hN : 1000000 ≤ N) (d : Wd n m P W c) : cF tb N K "_law_there" [setD P W, rowD c] h = some (.bl true, h) := by
  obtain ⟨j, rfl, hj⟩ := dep hK
  rw [call_at lk__law_there (by rfl)]
  have hm5 := d.v.m5
  have hn4 := d.v.n4
  obtain ⟨a, r, e0, ec⟩ := e_choice (N := N) (h := h) (K := j) hj d.v d.ch
  have al : a < m := by
    have : a ∈ choiceN P W c := by rw [e0]; exact List.mem_cons_self
    unfold choiceN at this
    exact best_lt d.v.p (List.mem_filter.1 this).1
  have hbl := l_best (N := N) (h := h) (K := j) (by omega) hN d.v.p d.p9 d.c9 (by omega) (by omega)
  have hch := l_choice (N := N) (h := h) (K := j) (by omega) hN d.v d.ch d.p9 d.w9 d.c9 e0
  have rg : dBI h .listRange [.int ((P.map rowD).length : Nat)] = some (.new ((List.range m).map fun i => .int (i : Nat))) := by
    unfold dBI dB1
    simp only
    have z : (0 : Int) ≤ 2 ^ 62 := by decide
    rw [List.length_map, d.v.p.len, if_pos ⟨by omega, by unfold most; omega⟩, rng_eq]
  have q3 : dGn (cF tb N j) g__law_there_3 [some (setD P W), some (rowD c), some (.lst ((List.range m).map fun i => .int (i : Nat))), none, some (.lst ((bestN (sums P c)).map fun i => .int (i : Nat))), some (.tup [.int (a : Nat), fr (mx (wsR P W c))]), none, none] h = some ((sums P c).map fr, h) := by
    refine gn_of (ds := (List.range m).map fun i => .int (i : Nat)) (ck := none) (h1 := h) (by simp only [gs__law_there_3, dSs, dS_expr, dS_ret, dS_retN, dS_asg, dS_par, dS_aug, dS_ite, dS_for, dS_wh, dS_pass, dS_brk, dS_cnt, dP, dPs, dI, dG, dGs, dGn_eq, dB, cSeq, cRet, cExpr, cAsg, cPar, setAll, cAug, augI, cIte, aVar, aC, tst, aTup, aLst, aBin, aNeg, aCmp, aChain, aNot, aIte, aIx, aO, aSl, dCut, aCall, aCallk, aBi, aMeth, aFin, aEl, aOT, aSeq, aRange1_eq, aEnum, aZip, wipeE, List.foldl_cons, List.foldl_nil, aCons, aStar, aAndV, aOrV, aAnd, aOr, aNotT, gNm, gTp, gNl, gCn, dIx, seqOf, lstOf, zsrc, dBI, dB1, dB2, Rz.fin, truth, dc_eq_int, dc_ne_int, dc_eq_fr, dc_eq_str, dc_ne_str, dc_lt, dc_le, dc_gt, dc_ge, dc_is, dc_isn, dBin, List.getElem?_cons_zero, List.getElem?_cons_succ, List.set_cons_zero, List.set_cons_succ, List.map_cons, List.map_nil, List.length_cons, List.length_nil, List.replicate, List.cons_append, List.nil_append, List.append_nil, Nat.reduceAdd, Nat.reduceSub, Nat.sub_self, Nat.reduceLeDiff, if_true, if_false, Bool.false_eq_true, reduceIte, Int.cast_ofNat_Int, eq_self, decide_true, decide_false, Bool.not_true, Bool.not_false, Bool.and_self, Bool.and_true, Bool.true_and, Bool.and_false, Bool.false_and, Bool.or_false, Bool.false_or, Bool.or_true, Bool.true_or, isi1, isi2, isi3, isi4, isi5, isi6, ok_int, deq_int, view_int, view_fr, view_str, ok_fr, eq_fr, view_tup, view_lst, ty_fr, tyN, List.any_cons, List.any_nil, atI_0, atI_1, atI_2, atI_3, atI_n, most, runB_rt, runB_nx, fin_same]) ?_
    rw [← nth_map d.v.p.len, List.map_map]
    refine lc_mapR (fun i : Nat => D.int (i : Nat)) _ (fun i hi => ?_) (by rw [List.length_range]; unfold most; omega)
    rw [List.mem_range] at hi
    simp only [gnF, g__law_there_3, dSs, dS_expr, dS_ret, dS_retN, dS_asg, dS_par, dS_aug, dS_ite, dS_for, dS_wh, dS_pass, dS_brk, dS_cnt, dP, dPs, dI, dG, dGs, dGn_eq, dB, cSeq, cRet, cExpr, cAsg, cPar, setAll, cAug, augI, cIte, aVar, aC, tst, aTup, aLst, aBin, aNeg, aCmp, aChain, aNot, aIte, aIx, aO, aSl, dCut, aCall, aCallk, aBi, aMeth, aFin, aEl, aOT, aSeq, aRange1_eq, aEnum, aZip, wipeE, List.foldl_cons, List.foldl_nil, aCons, aStar, aAndV, aOrV, aAnd, aOr, aNotT, gNm, gTp, gNl, gCn, dIx, seqOf, lstOf, zsrc, dBI, dB1, dB2, Rz.fin, truth, dc_eq_int, dc_ne_int, dc_eq_fr, dc_eq_str, dc_ne_str, dc_lt, dc_le, dc_gt, dc_ge, dc_is, dc_isn, dBin, List.getElem?_cons_zero, List.getElem?_cons_succ, List.set_cons_zero, List.set_cons_succ, List.map_cons, List.map_nil, List.length_cons, List.length_nil, List.replicate, List.cons_append, List.nil_append, List.append_nil, Nat.reduceAdd, Nat.reduceSub, Nat.sub_self, Nat.reduceLeDiff, if_true, if_false, Bool.false_eq_true, reduceIte, Int.cast_ofNat_Int, eq_self, decide_true, decide_false, Bool.not_true, Bool.not_false, Bool.and_self, Bool.and_true, Bool.true_and, Bool.and_false, Bool.false_and, Bool.or_false, Bool.false_or, Bool.or_true, Bool.true_or, isi1, isi2, isi3, isi4, isi5, isi6, ok_int, deq_int, view_int, view_fr, view_str, ok_fr, eq_fr, view_tup, view_lst, ty_fr, tyN, List.any_cons, List.any_nil, atI_0, atI_1, atI_2, atI_3, atI_n, most, runB_rt, runB_nx, fin_same, e_pay (N := N) (h := h) (K := j) hj d.v d.ch hi, Function.comp_apply]
  have q1 : dGn (cF tb N j) g__law_there_1 [some (setD P W), some (rowD c), some (.lst ((List.range m).map fun i => .int (i : Nat))), none, some (.lst ((bestN (sums P c)).map fun i => .int (i : Nat))), some (.tup [.int (a : Nat), fr (mx (wsR P W c))]), none, none] h = some ((sums W c).map fr, h) := by
    refine gn_of (ds := (List.range m).map fun i => .int (i : Nat)) (ck := none) (h1 := h) (by simp only [gs__law_there_1, dSs, dS_expr, dS_ret, dS_retN, dS_asg, dS_par, dS_aug, dS_ite, dS_for, dS_wh, dS_pass, dS_brk, dS_cnt, dP, dPs, dI, dG, dGs, dGn_eq, dB, cSeq, cRet, cExpr, cAsg, cPar, setAll, cAug, augI, cIte, aVar, aC, tst, aTup, aLst, aBin, aNeg, aCmp, aChain, aNot, aIte, aIx, aO, aSl, dCut, aCall, aCallk, aBi, aMeth, aFin, aEl, aOT, aSeq, aRange1_eq, aEnum, aZip, wipeE, List.foldl_cons, List.foldl_nil, aCons, aStar, aAndV, aOrV, aAnd, aOr, aNotT, gNm, gTp, gNl, gCn, dIx, seqOf, lstOf, zsrc, dBI, dB1, dB2, Rz.fin, truth, dc_eq_int, dc_ne_int, dc_eq_fr, dc_eq_str, dc_ne_str, dc_lt, dc_le, dc_gt, dc_ge, dc_is, dc_isn, dBin, List.getElem?_cons_zero, List.getElem?_cons_succ, List.set_cons_zero, List.set_cons_succ, List.map_cons, List.map_nil, List.length_cons, List.length_nil, List.replicate, List.cons_append, List.nil_append, List.append_nil, Nat.reduceAdd, Nat.reduceSub, Nat.sub_self, Nat.reduceLeDiff, if_true, if_false, Bool.false_eq_true, reduceIte, Int.cast_ofNat_Int, eq_self, decide_true, decide_false, Bool.not_true, Bool.not_false, Bool.and_self, Bool.and_true, Bool.true_and, Bool.and_false, Bool.false_and, Bool.or_false, Bool.false_or, Bool.or_true, Bool.true_or, isi1, isi2, isi3, isi4, isi5, isi6, ok_int, deq_int, view_int, view_fr, view_str, ok_fr, eq_fr, view_tup, view_lst, ty_fr, tyN, List.any_cons, List.any_nil, atI_0, atI_1, atI_2, atI_3, atI_n, most, runB_rt, runB_nx, fin_same]) ?_
    rw [← nth_map d.v.w.len, List.map_map]
    refine lc_mapR (fun i : Nat => D.int (i : Nat)) _ (fun i hi => ?_) (by rw [List.length_range]; unfold most; omega)
    rw [List.mem_range] at hi
    simp only [gnF, g__law_there_1, dSs, dS_expr, dS_ret, dS_retN, dS_asg, dS_par, dS_aug, dS_ite, dS_for, dS_wh, dS_pass, dS_brk, dS_cnt, dP, dPs, dI, dG, dGs, dGn_eq, dB, cSeq, cRet, cExpr, cAsg, cPar, setAll, cAug, augI, cIte, aVar, aC, tst, aTup, aLst, aBin, aNeg, aCmp, aChain, aNot, aIte, aIx, aO, aSl, dCut, aCall, aCallk, aBi, aMeth, aFin, aEl, aOT, aSeq, aRange1_eq, aEnum, aZip, wipeE, List.foldl_cons, List.foldl_nil, aCons, aStar, aAndV, aOrV, aAnd, aOr, aNotT, gNm, gTp, gNl, gCn, dIx, seqOf, lstOf, zsrc, dBI, dB1, dB2, Rz.fin, truth, dc_eq_int, dc_ne_int, dc_eq_fr, dc_eq_str, dc_ne_str, dc_lt, dc_le, dc_gt, dc_ge, dc_is, dc_isn, dBin, List.getElem?_cons_zero, List.getElem?_cons_succ, List.set_cons_zero, List.set_cons_succ, List.map_cons, List.map_nil, List.length_cons, List.length_nil, List.replicate, List.cons_append, List.nil_append, List.append_nil, Nat.reduceAdd, Nat.reduceSub, Nat.sub_self, Nat.reduceLeDiff, if_true, if_false, Bool.false_eq_true, reduceIte, Int.cast_ofNat_Int, eq_self, decide_true, decide_false, Bool.not_true, Bool.not_false, Bool.and_self, Bool.and_true, Bool.true_and, Bool.and_false, Bool.false_and, Bool.or_false, Bool.false_or, Bool.or_true, Bool.true_or, isi1, isi2, isi3, isi4, isi5, isi6, ok_int, deq_int, view_int, view_fr, view_str, ok_fr, eq_fr, view_tup, view_lst, ty_fr, tyN, List.any_cons, List.any_nil, atI_0, atI_1, atI_2, atI_3, atI_n, most, runB_rt, runB_nx, fin_same, e_worth (N := N) (h := h) (K := j) hj d.v d.ch hi, Function.comp_apply]
  have q4 : dGn (cF tb N j) g__law_there_4 [some (setD P W), some (rowD c), some (.lst ((List.range m).map fun i => .int (i : Nat))), none, some (.lst ((bestN (sums P c)).map fun i => .int (i : Nat))), some (.tup [.int (a : Nat), fr (mx (wsR P W c))]), none, none] h = some ((sums P c).map fr, h) := by
    refine gn_of (ds := P.map rowD) (ck := none) (h1 := h) (by simp only [gs__law_there_4, dSs, dS_expr, dS_ret, dS_retN, dS_asg, dS_par, dS_aug, dS_ite, dS_for, dS_wh, dS_pass, dS_brk, dS_cnt, dP, dPs, dI, dG, dGs, dGn_eq, dB, cSeq, cRet, cExpr, cAsg, cPar, setAll, cAug, augI, cIte, aVar, aC, tst, aTup, aLst, aBin, aNeg, aCmp, aChain, aNot, aIte, aIx, aO, aSl, dCut, aCall, aCallk, aBi, aMeth, aFin, aEl, aOT, aSeq, aRange1_eq, aEnum, aZip, wipeE, List.foldl_cons, List.foldl_nil, aCons, aStar, aAndV, aOrV, aAnd, aOr, aNotT, gNm, gTp, gNl, gCn, dIx, seqOf, lstOf, zsrc, dBI, dB1, dB2, Rz.fin, truth, dc_eq_int, dc_ne_int, dc_eq_fr, dc_eq_str, dc_ne_str, dc_lt, dc_le, dc_gt, dc_ge, dc_is, dc_isn, dBin, List.getElem?_cons_zero, List.getElem?_cons_succ, List.set_cons_zero, List.set_cons_succ, List.map_cons, List.map_nil, List.length_cons, List.length_nil, List.replicate, List.cons_append, List.nil_append, List.append_nil, Nat.reduceAdd, Nat.reduceSub, Nat.sub_self, Nat.reduceLeDiff, if_true, if_false, Bool.false_eq_true, reduceIte, Int.cast_ofNat_Int, eq_self, decide_true, decide_false, Bool.not_true, Bool.not_false, Bool.and_self, Bool.and_true, Bool.true_and, Bool.and_false, Bool.false_and, Bool.or_false, Bool.false_or, Bool.or_true, Bool.true_or, isi1, isi2, isi3, isi4, isi5, isi6, ok_int, deq_int, view_int, view_fr, view_str, ok_fr, eq_fr, view_tup, view_lst, ty_fr, tyN, List.any_cons, List.any_nil, atI_0, atI_1, atI_2, atI_3, atI_n, most, runB_rt, runB_nx, fin_same, setD, tabD]) ?_
    unfold sums
    rw [List.map_map]
    refine lc_mapR rowD _ (fun r hr => ?_) (by rw [d.v.p.len]; unfold most; omega)
    have e1 := l_dot (N := N) (h := h) (K := j) (by omega) hN (a := r) (b := c) (d.p9 r hr) d.c9 (by rw [(d.v.p.row r hr).1]; omega)
    simp only [gnF, g__law_there_4, dSs, dS_expr, dS_ret, dS_retN, dS_asg, dS_par, dS_aug, dS_ite, dS_for, dS_wh, dS_pass, dS_brk, dS_cnt, dP, dPs, dI, dG, dGs, dGn_eq, dB, cSeq, cRet, cExpr, cAsg, cPar, setAll, cAug, augI, cIte, aVar, aC, tst, aTup, aLst, aBin, aNeg, aCmp, aChain, aNot, aIte, aIx, aO, aSl, dCut, aCall, aCallk, aBi, aMeth, aFin, aEl, aOT, aSeq, aRange1_eq, aEnum, aZip, wipeE, List.foldl_cons, List.foldl_nil, aCons, aStar, aAndV, aOrV, aAnd, aOr, aNotT, gNm, gTp, gNl, gCn, dIx, seqOf, lstOf, zsrc, dBI, dB1, dB2, Rz.fin, truth, dc_eq_int, dc_ne_int, dc_eq_fr, dc_eq_str, dc_ne_str, dc_lt, dc_le, dc_gt, dc_ge, dc_is, dc_isn, dBin, List.getElem?_cons_zero, List.getElem?_cons_succ, List.set_cons_zero, List.set_cons_succ, List.map_cons, List.map_nil, List.length_cons, List.length_nil, List.replicate, List.cons_append, List.nil_append, List.append_nil, Nat.reduceAdd, Nat.reduceSub, Nat.sub_self, Nat.reduceLeDiff, if_true, if_false, Bool.false_eq_true, reduceIte, Int.cast_ofNat_Int, eq_self, decide_true, decide_false, Bool.not_true, Bool.not_false, Bool.and_self, Bool.and_true, Bool.true_and, Bool.and_false, Bool.false_and, Bool.or_false, Bool.false_or, Bool.or_true, Bool.true_or, isi1, isi2, isi3, isi4, isi5, isi6, ok_int, deq_int, view_int, view_fr, view_str, ok_fr, eq_fr, view_tup, view_lst, ty_fr, tyN, List.any_cons, List.any_nil, atI_0, atI_1, atI_2, atI_3, atI_n, most, runB_rt, runB_nx, fin_same, e1, Function.comp_apply]
  have q2 : dGn (cF tb N j) g__law_there_2 [some (setD P W), some (rowD c), some (.lst ((List.range m).map fun i => .int (i : Nat))), none, some (.lst ((bestN (sums P c)).map fun i => .int (i : Nat))), some (.tup [.int (a : Nat), fr (mx (wsR P W c))]), none, none] h = some ((sums W c).map fr, h) := by
    refine gn_of (ds := W.map rowD) (ck := none) (h1 := h) (by simp only [gs__law_there_2, dSs, dS_expr, dS_ret, dS_retN, dS_asg, dS_par, dS_aug, dS_ite, dS_for, dS_wh, dS_pass, dS_brk, dS_cnt, dP, dPs, dI, dG, dGs, dGn_eq, dB, cSeq, cRet, cExpr, cAsg, cPar, setAll, cAug, augI, cIte, aVar, aC, tst, aTup, aLst, aBin, aNeg, aCmp, aChain, aNot, aIte, aIx, aO, aSl, dCut, aCall, aCallk, aBi, aMeth, aFin, aEl, aOT, aSeq, aRange1_eq, aEnum, aZip, wipeE, List.foldl_cons, List.foldl_nil, aCons, aStar, aAndV, aOrV, aAnd, aOr, aNotT, gNm, gTp, gNl, gCn, dIx, seqOf, lstOf, zsrc, dBI, dB1, dB2, Rz.fin, truth, dc_eq_int, dc_ne_int, dc_eq_fr, dc_eq_str, dc_ne_str, dc_lt, dc_le, dc_gt, dc_ge, dc_is, dc_isn, dBin, List.getElem?_cons_zero, List.getElem?_cons_succ, List.set_cons_zero, List.set_cons_succ, List.map_cons, List.map_nil, List.length_cons, List.length_nil, List.replicate, List.cons_append, List.nil_append, List.append_nil, Nat.reduceAdd, Nat.reduceSub, Nat.sub_self, Nat.reduceLeDiff, if_true, if_false, Bool.false_eq_true, reduceIte, Int.cast_ofNat_Int, eq_self, decide_true, decide_false, Bool.not_true, Bool.not_false, Bool.and_self, Bool.and_true, Bool.true_and, Bool.and_false, Bool.false_and, Bool.or_false, Bool.false_or, Bool.or_true, Bool.true_or, isi1, isi2, isi3, isi4, isi5, isi6, ok_int, deq_int, view_int, view_fr, view_str, ok_fr, eq_fr, view_tup, view_lst, ty_fr, tyN, List.any_cons, List.any_nil, atI_0, atI_1, atI_2, atI_3, atI_n, most, runB_rt, runB_nx, fin_same, setD, tabD]) ?_
    unfold sums
    rw [List.map_map]
    refine lc_mapR rowD _ (fun r hr => ?_) (by rw [d.v.w.len]; unfold most; omega)
    have e1 := l_dot (N := N) (h := h) (K := j) (by omega) hN (a := r) (b := c) (d.w9 r hr) d.c9 (by rw [(d.v.w.row r hr).1]; omega)
    simp only [gnF, g__law_there_2, dSs, dS_expr, dS_ret, dS_retN, dS_asg, dS_par, dS_aug, dS_ite, dS_for, dS_wh, dS_pass, dS_brk, dS_cnt, dP, dPs, dI, dG, dGs, dGn_eq, dB, cSeq, cRet, cExpr, cAsg, cPar, setAll, cAug, augI, cIte, aVar, aC, tst, aTup, aLst, aBin, aNeg, aCmp, aChain, aNot, aIte, aIx, aO, aSl, dCut, aCall, aCallk, aBi, aMeth, aFin, aEl, aOT, aSeq, aRange1_eq, aEnum, aZip, wipeE, List.foldl_cons, List.foldl_nil, aCons, aStar, aAndV, aOrV, aAnd, aOr, aNotT, gNm, gTp, gNl, gCn, dIx, seqOf, lstOf, zsrc, dBI, dB1, dB2, Rz.fin, truth, dc_eq_int, dc_ne_int, dc_eq_fr, dc_eq_str, dc_ne_str, dc_lt, dc_le, dc_gt, dc_ge, dc_is, dc_isn, dBin, List.getElem?_cons_zero, List.getElem?_cons_succ, List.set_cons_zero, List.set_cons_succ, List.map_cons, List.map_nil, List.length_cons, List.length_nil, List.replicate, List.cons_append, List.nil_append, List.append_nil, Nat.reduceAdd, Nat.reduceSub, Nat.sub_self, Nat.reduceLeDiff, if_true, if_false, Bool.false_eq_true, reduceIte, Int.cast_ofNat_Int, eq_self, decide_true, decide_false, Bool.not_true, Bool.not_false, Bool.and_self, Bool.and_true, Bool.true_and, Bool.and_false, Bool.false_and, Bool.or_false, Bool.false_or, Bool.or_true, Bool.true_or, isi1, isi2, isi3, isi4, isi5, isi6, ok_int, deq_int, view_int, view_fr, view_str, ok_fr, eq_fr, view_tup, view_lst, ty_fr, tyN, List.any_cons, List.any_nil, atI_0, atI_1, atI_2, atI_3, atI_n, most, runB_rt, runB_nx, fin_same, e1, Function.comp_apply]
  have l5 : (bestN (sums P c)).length ≤ 5 := by
    have := bestN_len (l := sums P c)
    rw [sums_len, d.v.p.len] at this
    omega
  have rt := (rep_told (bs_lt (c := c) d.v.p hm5) l5 (by omega : a < 1000) (ws_sz d _ (mx_mem (wsR_ne d.v)))).1
  exact run_lthere (k := ((P.map rowD).length : Nat)) (by rfl) (by rfl) hbl hch (by rfl) rg q3 q4 q1 q2 (rep_is (rep_row d.sp (by rw [sums_len, d.v.p.len]; omega))) (rep_is (rep_row d.sw (by rw [sums_len, d.v.w.len]; omega))) (rep_is rt)
    (e_best_actions (N := N) (h := h) (K := j) hj d.v d.ch) ec (e_value (N := N) (h := h) (K := j) hj d.v d.ch) (by rfl) (by rfl) (by rfl)
end Row
namespace Row
open PySem PySem.Spec PyProof.Rows L2 Ev
variable {N K : Nat} {h : AH}
/-! ### the well of numbers -/
structure Wl where
  a : Int
  b : Int
  c : Int
def wD (w : Wl) : AO := .lst [.int w.a, .int w.b, .int w.c]
structure WOk (n : Nat) (w : Wl) : Prop where
  a0 : 0 ≤ w.a
  b0 : 0 ≤ w.b
  b1 : w.b < 2147483477
  c0 : 0 ≤ w.c
  c1 : w.c ≤ n
theorem WOk.mono {n m : Nat} {w : Wl} (k : WOk n w) (l : n ≤ m) : WOk m w := ⟨k.a0, k.b0, k.b1, k.c0, by have := k.c1; omega⟩
def putD (h : AH) (n : Nat) (i : Int) (d : D) : Option AH := match h[n]? with
  | some (.lst xs) => match ixN xs.length i with | some j => some (h.set n (.lst (xs.set j d))) | none => none
  | _ => none
theorem gSb_eq {f g : SE} {d : D} {e : En} {h : AH} : gSb f g d e h = match f e h with
    | some (.ref n, h) => match g e h with
      | some (.int i, h) => match putD h n i d with | some h' => some (e, h') | none => none
      | _ => none
    | _ => none := by
  unfold gSb putD
  cases f e h with
  | none => rfl
  | some p =>
    obtain ⟨x, h1⟩ := p
    cases x with
    | ref n =>
      simp only
      cases g e h1 with
      | none => rfl
      | some p =>
        obtain ⟨y, h2⟩ := p
        cases y with
        | int i =>
          simp only
          cases h2[n]? with
          | none => rfl
          | some o =>
            cases o with
            | dic _ => rfl
            | lst xs =>
              simp only
              cases ixN xs.length i <;> rfl
        | _ => rfl
    | _ => rfl
theorem dbi_int {z : Int} : dBI h .int [.int z] = some (.val (.int z)) := rfl
theorem fin_len {kp : Bool} {h h' : AH} {d : D} (e : h'.length = h.length) : fin kp h h' d = some (d, h') := by
  unfold fin
  rw [if_pos e]
theorem run_drawA {j i : Nat} {f a q r : Int} {H0 H1 : AH} (i0 : dIx H0 (.ref i) (.int 0) = some (.int a)) (pa : 0 < a) (dm : dBI H0 .divmod [.int a, .int f] = some (.val (.tup [.int q, .int r]))) (pt : putD H0 i 0 (.int q) = some H1) (hl : H1.length = H0.length) :
    runB false (dSs (cF tb N j) N b__law_draw ([.ref i, .int f].map some ++ List.replicate (4 - [D.ref i, .int f].length) none) H0) H0 = some (.int r, H1) := by
  simp only [b__law_draw, dSs, dS_expr, dS_ret, dS_retN, dS_asg, dS_par, dS_aug, dS_ite, dS_for, dS_wh, dS_pass, dS_brk, dS_cnt, dP, dPs, dI, dG, dGs, dB, cSeq, cRet, cExpr, cAsg, cPar, setAll, cAug, augI, cIte, aVar, aC, tst, aTup, aLst, aBin, aNeg, aCmp, aChain, aNot, aIte, aIx, aO, aSl, dCut, aCall, aCallk, aBi, aMeth, aFin, aEl, aOT, aSeq, aRange1_eq, aEnum, aZip, wipeE, List.foldl_cons, List.foldl_nil, aCons, aStar, aAndV, aOrV, aAnd, aOr, aNotT, gNm, gTp, gNl, gCn, Rz.fin, truth, dc_eq_int, dc_ne_int, dc_eq_fr, dc_eq_str, dc_ne_str, dc_lt, dc_le, dc_gt, dc_ge, dc_is, dc_isn, dBin, List.getElem?_cons_zero, List.getElem?_cons_succ, List.set_cons_zero, List.set_cons_succ, List.map_cons, List.map_nil, List.length_cons, List.length_nil, List.replicate, List.cons_append, List.nil_append, List.append_nil, Nat.reduceAdd, Nat.reduceSub, Nat.sub_self, Nat.reduceLeDiff, if_true, if_false, Bool.false_eq_true, reduceIte, Int.cast_ofNat_Int, eq_self, decide_true, decide_false, Bool.not_true, Bool.not_false, Bool.and_self, Bool.and_true, Bool.true_and, Bool.and_false, Bool.false_and, Bool.or_false, Bool.false_or, Bool.or_true, Bool.true_or, isi1, isi2, isi3, isi4, isi5, isi6, ok_int, deq_int, view_int, view_fr, view_str, ok_fr, eq_fr, view_tup, view_lst, ty_fr, tyN, List.any_cons, List.any_nil, atI_0, atI_1, atI_2, atI_3, atI_n, most, runB_rt, runB_nx, fin_same, gSb_eq, i0, pa, dm, pt]
  exact fin_len hl
theorem run_drawB {j i : Nat} {f a b c b2 mx2 : Int} {H0 H1 H2 : AH} (i0 : dIx H0 (.ref i) (.int 0) = some (.int a)) (pa : ¬ 0 < a) (i2 : dIx H0 (.ref i) (.int 2) = some (.int c)) (p1 : putD H0 i 2 (.int (c + 1)) = some H1)
    (j1 : dIx H1 (.ref i) (.int 1) = some (.int b)) (j2 : dIx H1 (.ref i) (.int 2) = some (.int (c + 1))) (m1 : mulOk b 44497 = true) (m2 : mulOk 13007 (c + 1) = true) (em : (b * 44497 + 13007 * (c + 1)).fmod 2147483477 = mx2)
    (m3 : mulOk mx2 (mx2.fmod 4999 + 30011) = true) (eb : (mx2 * (mx2.fmod 4999 + 30011) + (c + 1)).fmod 2147483477 = b2) (p2 : putD H1 i 1 (.int b2) = some H2) (k1 : dIx H2 (.ref i) (.int 1) = some (.int b2)) (hf : f ≠ 0) (hl : H2.length = H0.length) :
    runB false (dSs (cF tb N j) N b__law_draw ([.ref i, .int f].map some ++ List.replicate (4 - [D.ref i, .int f].length) none) H0) H0 = some (.int ((b2.fdiv 1013).fmod f), H2) := by
  have n1 : (2147483477 : Int) ≠ 0 := by decide
  have n2 : (4999 : Int) ≠ 0 := by decide
  have n3 : (1013 : Int) ≠ 0 := by decide
  simp only [b__law_draw, dSs, dS_expr, dS_ret, dS_retN, dS_asg, dS_par, dS_aug, dS_ite, dS_for, dS_wh, dS_pass, dS_brk, dS_cnt, dP, dPs, dI, dG, dGs, dB, cSeq, cRet, cExpr, cAsg, cPar, setAll, cAug, augI, cIte, aVar, aC, tst, aTup, aLst, aBin, aNeg, aCmp, aChain, aNot, aIte, aIx, aO, aSl, dCut, aCall, aCallk, aBi, aMeth, aFin, aEl, aOT, aSeq, aRange1_eq, aEnum, aZip, wipeE, List.foldl_cons, List.foldl_nil, aCons, aStar, aAndV, aOrV, aAnd, aOr, aNotT, gNm, gTp, gNl, gCn, Rz.fin, truth, dc_eq_int, dc_ne_int, dc_eq_fr, dc_eq_str, dc_ne_str, dc_lt, dc_le, dc_gt, dc_ge, dc_is, dc_isn, dBin, List.getElem?_cons_zero, List.getElem?_cons_succ, List.set_cons_zero, List.set_cons_succ, List.map_cons, List.map_nil, List.length_cons, List.length_nil, List.replicate, List.cons_append, List.nil_append, List.append_nil, Nat.reduceAdd, Nat.reduceSub, Nat.sub_self, Nat.reduceLeDiff, if_true, if_false, Bool.false_eq_true, reduceIte, Int.cast_ofNat_Int, eq_self, decide_true, decide_false, Bool.not_true, Bool.not_false, Bool.and_self, Bool.and_true, Bool.true_and, Bool.and_false, Bool.false_and, Bool.or_false, Bool.false_or, Bool.or_true, Bool.true_or, isi1, isi2, isi3, isi4, isi5, isi6, ok_int, deq_int, view_int, view_fr, view_str, ok_fr, eq_fr, view_tup, view_lst, ty_fr, tyN, List.any_cons, List.any_nil, atI_0, atI_1, atI_2, atI_3, atI_n, most, runB_rt, runB_nx, fin_same, gSb_eq, i0, pa, i2, p1, j1, j2, m1, m2, em, m3, eb, p2, k1, n1, n2, n3, hf, ne_eq, not_false_eq_true, dbi_int]
  exact fin_len hl
end Row
namespace Row
open PySem PySem.Spec PyProof.Rows L2 Ev
variable {N K : Nat} {h : AH}
section
variable {i : Nat} {w : Wl}
theorem get_w (hi : i < h.length) : (h.set i (wD w))[i]? = some (.lst [.int w.a, .int w.b, .int w.c]) := by
  rw [List.getElem?_set_self hi] <;> rfl
theorem ix_w0 (hi : i < h.length) : dIx (h.set i (wD w)) (.ref i) (.int 0) = some (.int w.a) := by
  unfold dIx seqOf lstOf
  simp only [get_w hi, atI_0, List.getElem?_cons_zero]
theorem ix_w1 (hi : i < h.length) : dIx (h.set i (wD w)) (.ref i) (.int 1) = some (.int w.b) := by
  unfold dIx seqOf lstOf
  simp only [get_w hi, atI_1, List.getElem?_cons_zero, List.getElem?_cons_succ]
theorem ix_w2 (hi : i < h.length) : dIx (h.set i (wD w)) (.ref i) (.int 2) = some (.int w.c) := by
  unfold dIx seqOf lstOf
  simp only [get_w hi, atI_2, List.getElem?_cons_zero, List.getElem?_cons_succ]
theorem put_w0 (hi : i < h.length) {q : Int} : putD (h.set i (wD w)) i 0 (.int q) = some (h.set i (wD ⟨q, w.b, w.c⟩)) := by
  unfold putD
  rw [get_w hi]
  have e : ixN ([D.int w.a, .int w.b, .int w.c]).length 0 = some 0 := by
    show ixN 3 0 = some 0
    decide
  simp only [e, List.set_set] <;> rfl
theorem put_w1 (hi : i < h.length) {q : Int} : putD (h.set i (wD w)) i 1 (.int q) = some (h.set i (wD ⟨w.a, q, w.c⟩)) := by
  unfold putD
  rw [get_w hi]
  have e : ixN ([D.int w.a, .int w.b, .int w.c]).length 1 = some 1 := by
    show ixN 3 1 = some 1
    decide
  simp only [e, List.set_set] <;> rfl
theorem put_w2 (hi : i < h.length) {q : Int} : putD (h.set i (wD w)) i 2 (.int q) = some (h.set i (wD ⟨w.a, w.b, q⟩)) := by
  unfold putD
  rw [get_w hi]
  have e : ixN ([D.int w.a, .int w.b, .int w.c]).length 2 = some 2 := by
    show ixN 3 2 = some 2
    decide
  simp only [e, List.set_set] <;> rfl
end
theorem fm_lt {a b : Int} (hb : 0 < b) : 0 ≤ a.fmod b ∧ a.fmod b < b := by
  rw [Int.fmod_eq_emod_of_nonneg _ (by omega)]
  exact ⟨Int.emod_nonneg _ (by omega), Int.emod_lt_of_pos _ hb⟩
theorem D_draw {i n : Nat} {w : Wl} {few : Int} (hK : 1 ≤ K) (hi : i < h.length) (ok : WOk n w) (hn : n ≤ 1000000) (hf : 0 < few) :
    ∃ v w', cF tb N K "_law_draw" [.ref i, .int few] (h.set i (wD w)) = some (.int v, h.set i (wD w')) ∧ 0 ≤ v ∧ v < few ∧ WOk (n + 1) w' := by
  obtain ⟨j, rfl, hj⟩ := dep hK
  have f0 : few ≠ 0 := by omega
  by_cases pa : 0 < w.a
  · refine ⟨w.a.fmod few, ⟨w.a.fdiv few, w.b, w.c⟩, ?_, (fm_lt hf).1, (fm_lt hf).2, ?_⟩
    · rw [call_at lk__law_draw (by rfl)]
      have dm : dBI (h.set i (wD w)) .divmod [.int w.a, .int few] = some (.val (.tup [.int (w.a.fdiv few), .int (w.a.fmod few)])) := by
        unfold dBI dB2
        simp only [f0, ne_eq, not_false_eq_true, if_true]
      exact run_drawA (ix_w0 hi) pa dm (put_w0 hi) (by rw [List.length_set, List.length_set])
    · exact ⟨by rw [Int.fdiv_eq_ediv_of_nonneg _ (by omega)]; exact Int.ediv_nonneg ok.a0 (by omega), ok.b0, ok.b1, ok.c0, by have := ok.c1; show w.c ≤ ((n + 1 : Nat) : Int); omega⟩
  · have c0 := ok.c0
    have c1 := ok.c1
    have b0 := ok.b0
    have b1 := ok.b1
    generalize e1 : (w.b * 44497 + 13007 * (w.c + 1)).fmod 2147483477 = m1
    have r1 : 0 ≤ m1 ∧ m1 < 2147483477 := by rw [← e1]; exact fm_lt (by decide)
    generalize e2 : (m1 * (m1.fmod 4999 + 30011) + (w.c + 1)).fmod 2147483477 = b2
    have r2 : 0 ≤ b2 ∧ b2 < 2147483477 := by rw [← e2]; exact fm_lt (by decide)
    have r3 := fm_lt (a := m1) (b := 4999) (by decide)
    have k1 : mulOk w.b 44497 = true := mulOk_of (a := 40) (b := 40) (by omega) (by decide) (by decide)
    have k2 : mulOk 13007 (w.c + 1) = true := mulOk_of (a := 40) (b := 40) (by decide) (by omega) (by decide)
    have k3 : mulOk m1 (m1.fmod 4999 + 30011) = true := mulOk_of (a := 40) (b := 40) (by omega) (by omega) (by decide)
    refine ⟨(b2.fdiv 1013).fmod few, ⟨w.a, b2, w.c + 1⟩, ?_, (fm_lt hf).1, (fm_lt hf).2, ⟨ok.a0, r2.1, r2.2, by show 0 ≤ w.c + 1; omega, by show w.c + 1 ≤ ((n + 1 : Nat) : Int); omega⟩⟩
    rw [call_at lk__law_draw (by rfl)]
    exact run_drawB (ix_w0 hi) pa (ix_w2 hi) (put_w2 hi) (ix_w1 (w := ⟨w.a, w.b, w.c + 1⟩) hi) (ix_w2 (w := ⟨w.a, w.b, w.c + 1⟩) hi) k1 k2 e1 k3 e2 (put_w1 (w := ⟨w.a, w.b, w.c + 1⟩) hi) (ix_w1 (w := ⟨w.a, b2, w.c + 1⟩) hi) f0 (by rw [List.length_set, List.length_set])
theorem run_one {j i : Nat} {x v : D} {k : Int} {H0 H1 : AH} {z : Int} (hl : dBI H0 .len [x] = some (.val (.int k))) (hd : cF tb N j "_law_draw" [.ref i, .int k] H0 = some (.int z, H1)) (hx : dIx H1 x (.int z) = some v) (le : H1.length = H0.length) :
    runB false (dSs (cF tb N j) N b__law_one ([.ref i, x].map some ++ List.replicate (2 - [D.ref i, x].length) none) H0) H0 = some (v, H1) := by
  simp only [b__law_one, dSs, dS_expr, dS_ret, dS_retN, dS_asg, dS_par, dS_aug, dS_ite, dS_for, dS_wh, dS_pass, dS_brk, dS_cnt, dP, dPs, dI, dG, dGs, dB, cSeq, cRet, cExpr, cAsg, cPar, setAll, cAug, augI, cIte, aVar, aC, tst, aTup, aLst, aBin, aNeg, aCmp, aChain, aNot, aIte, aIx, aO, aSl, dCut, aCall, aCallk, aBi, aMeth, aFin, aEl, aOT, aSeq, aRange1_eq, aEnum, aZip, wipeE, List.foldl_cons, List.foldl_nil, aCons, aStar, aAndV, aOrV, aAnd, aOr, aNotT, gNm, gTp, gNl, gCn, Rz.fin, truth, dc_eq_int, dc_ne_int, dc_eq_fr, dc_eq_str, dc_ne_str, dc_lt, dc_le, dc_gt, dc_ge, dc_is, dc_isn, dBin, List.getElem?_cons_zero, List.getElem?_cons_succ, List.set_cons_zero, List.set_cons_succ, List.map_cons, List.map_nil, List.length_cons, List.length_nil, List.replicate, List.cons_append, List.nil_append, List.append_nil, Nat.reduceAdd, Nat.reduceSub, Nat.sub_self, Nat.reduceLeDiff, if_true, if_false, Bool.false_eq_true, reduceIte, Int.cast_ofNat_Int, eq_self, decide_true, decide_false, Bool.not_true, Bool.not_false, Bool.and_self, Bool.and_true, Bool.true_and, Bool.and_false, Bool.false_and, Bool.or_false, Bool.false_or, Bool.or_true, Bool.true_or, isi1, isi2, isi3, isi4, isi5, isi6, ok_int, deq_int, view_int, view_fr, view_str, ok_fr, eq_fr, view_tup, view_lst, ty_fr, tyN, List.any_cons, List.any_nil, atI_0, atI_1, atI_2, atI_3, atI_n, most, runB_rt, runB_nx, fin_same, hl, hd, hx]
  exact fin_len le
theorem D_one {i n : Nat} {w : Wl} {xs : List D} {x : D} (hx : x = .tup xs ∨ x = .lst xs) (hK : 2 ≤ K) (hi : i < h.length) (ok : WOk n w) (hn : n ≤ 1000000) (h0 : xs ≠ []) :
    ∃ v w', cF tb N K "_law_one" [.ref i, x] (h.set i (wD w)) = some (v, h.set i (wD w')) ∧ v ∈ xs ∧ WOk (n + 1) w' := by
  obtain ⟨j, rfl, hj⟩ := dep hK
  have hp : 0 < (xs.length : Int) := by
    have : 0 < xs.length := List.length_pos_iff.2 h0
    omega
  obtain ⟨v, w', e, v0, v1, k⟩ := D_draw (N := N) (h := h) hj hi ok hn hp
  obtain ⟨z, rfl⟩ : ∃ z : Nat, v = z := ⟨v.toNat, by omega⟩
  have hz : z < xs.length := by omega
  refine ⟨xs[z], w', ?_, List.getElem_mem hz, k⟩
  rw [call_at lk__law_one (by rfl)]
  have le : (h.set i (wD w')).length = (h.set i (wD w)).length := by rw [List.length_set, List.length_set]
  rcases hx with rfl | rfl
  · exact run_one (by rfl) e (by unfold dIx seqOf; simp only [atI_n, List.getElem?_eq_getElem hz]) le
  · exact run_one (by rfl) e (by unfold dIx seqOf lstOf; simp only [atI_n, List.getElem?_eq_getElem hz]) le
end Row
namespace Row
open PySem PySem.Spec PyProof.Rows L2 Ev
variable {N K : Nat} {h : AH}
/-! ### a common denominator d, a bound M of the value -/
def Q (d M : Nat) (q : Rat) : Prop := d ≠ 0 ∧ ∃ z : Int, q = mkRat z d ∧ z.natAbs ≤ M * d
theorem Q.sz {d M b : Nat} {q : Rat} (h : Q d M q) (l : M * d < 2 ^ b) (l2 : d < 2 ^ b) : Sz b q := by
  obtain ⟨h0, z, rfl, hz⟩ := h
  exact Sz.of_mk h0 (by omega) l2
theorem Q.up {d M e : Nat} {q : Rat} (h : Q d M q) (he : e ≠ 0) : Q (e * d) M q := by
  obtain ⟨h0, z, rfl, hz⟩ := h
  refine ⟨Nat.mul_ne_zero he h0, (e : Int) * z, (Rat.mkRat_mul_left he).symm, ?_⟩
  rw [Int.natAbs_mul, Int.natAbs_natCast]
  have := Nat.mul_le_mul_left e hz
  rw [Nat.mul_left_comm] at this
  exact this
theorem Q.mono {d M M' : Nat} {q : Rat} (h : Q d M q) (l : M ≤ M') : Q d M' q := by
  obtain ⟨h0, z, e, hz⟩ := h
  exact ⟨h0, z, e, Nat.le_trans hz (Nat.mul_le_mul_right d l)⟩
theorem Q.add {d M M' : Nat} {x y : Rat} (hx : Q d M x) (hy : Q d M' y) : Q d (M + M') (x + y) := by
  obtain ⟨h0, z, rfl, hz⟩ := hx
  obtain ⟨_, u, rfl, hu⟩ := hy
  refine ⟨h0, z + u, ?_, ?_⟩
  · rw [Rat.mkRat_add_mkRat _ _ h0 h0, ← Int.add_mul, Int.mul_comm, Rat.mkRat_mul_left h0]
  · have := Int.natAbs_add_le z u
    rw [Nat.add_mul]
    omega
theorem Q.neg {d M : Nat} {x : Rat} (hx : Q d M x) : Q d M (-x) := by
  obtain ⟨h0, z, rfl, hz⟩ := hx
  exact ⟨h0, -z, by rw [Rat.neg_mkRat], by rw [Int.natAbs_neg]; exact hz⟩
theorem Q.sub {d M M' : Nat} {x y : Rat} (hx : Q d M x) (hy : Q d M' y) : Q d (M + M') (x - y) := by
  rw [Rat.sub_eq_add_neg]
  exact hx.add hy.neg
theorem Q.mul {d M d' M' : Nat} {x y : Rat} (hx : Q d M x) (hy : Q d' M' y) : Q (d * d') (M * M') (x * y) := by
  obtain ⟨h0, z, rfl, hz⟩ := hx
  obtain ⟨h1, u, rfl, hu⟩ := hy
  refine ⟨Nat.mul_ne_zero h0 h1, z * u, by rw [Rat.mkRat_mul_mkRat], ?_⟩
  rw [Int.natAbs_mul]
  have := Nat.mul_le_mul hz hu
  have e : M * d * (M' * d') = M * M' * (d * d') := by
    rw [Nat.mul_assoc, Nat.mul_assoc, Nat.mul_left_comm d]
  omega
theorem Q.int {d : Nat} (h0 : d ≠ 0) {v : Int} {M : Nat} (hv : v.natAbs ≤ M) : Q d M (v : Rat) := by
  refine ⟨h0, v * d, ?_, ?_⟩
  · have e : (v : Rat) = mkRat v 1 := by rw [Rat.mkRat_one]
    rw [e]
    have := Rat.mkRat_mul_left (n := v) (d := 1) h0
    rw [Nat.mul_one, Int.mul_comm] at this
    exact this.symm
  · rw [Int.natAbs_mul, Int.natAbs_natCast]
    exact Nat.mul_le_mul_right d hv
/-- the least common multiple of 1 to 60 -/
def L60 : Nat := 9690712164777231700912800
theorem l60 : ∀ b ∈ List.range' 1 60, L60 % b = 0 := by decide +kernel
theorem Q.frac {v : Int} {b M : Nat} (h1 : 1 ≤ b) (h2 : b ≤ 60) (hv : v.natAbs ≤ M) : Q L60 M (mkRat v b) := by
  have m : b ∈ List.range' 1 60 := by rw [List.mem_range'_1]; omega
  have d := l60 b m
  obtain ⟨e, he⟩ := Nat.dvd_of_mod_eq_zero d
  have e0 : e ≠ 0 := by rintro rfl; rw [Nat.mul_zero] at he; exact absurd he (by decide)
  have q : Q b M (mkRat v b) := ⟨by omega, v, rfl, Nat.le_trans hv (Nat.le_mul_of_pos_right M (by omega))⟩
  have := q.up e0
  rw [Nat.mul_comm e b, ← he] at this
  exact this
end Row
namespace Row
open PySem PySem.Spec PyProof.Rows L2 Ev
variable {N K : Nat} {h : AH}
theorem db_add {a b : Int} : dBin h .add (.int a) (.int b) = some (.val (.int (a + b))) := rfl
theorem db_sub {a b : Int} : dBin h .sub (.int a) (.int b) = some (.val (.int (a - b))) := rfl
theorem db_20 : dBin h .pow (.int 10) (.int 20) = some (.val (.int 100000000000000000000)) := by
  unfold dBin
  simp only
  rw [if_pos (by decide)] <;> rfl
theorem db_6 : dBin h .pow (.int 10) (.int 6) = some (.val (.int 1000000)) := by
  unfold dBin
  simp only
  rw [if_pos (by decide)] <;> rfl
section
variable {j : Nat} {x r : D} {a v u : Int} {H0 H1 H2 H3 : AH}
theorem run_num1 (d1 : cF tb N j "_law_draw" [x, .int 14] H0 = some (.int a, H1)) (c1 : a < 10) (d2 : cF tb N j "_law_draw" [x, .int 5] H1 = some (.int v, H2)) (le : H2.length = H0.length) :
    runB false (dSs (cF tb N j) N b__law_number ([x].map some ++ List.replicate (2 - [x].length) none) H0) H0 = some (.tup [.int (v - 1), .int 1], H2) := by
  simp only [b__law_number, dSs, dS_expr, dS_ret, dS_retN, dS_asg, dS_par, dS_aug, dS_ite, dS_for, dS_wh, dS_pass, dS_brk, dS_cnt, dP, dPs, dI, dG, dGs, dB, cSeq, cRet, cExpr, cAsg, cPar, setAll, cAug, augI, cIte, aVar, aC, tst, aTup, aLst, aBin, aNeg, aCmp, aChain, aNot, aIte, aIx, aO, aSl, dCut, aCall, aCallk, aBi, aMeth, aFin, aEl, aOT, aSeq, aRange1_eq, aEnum, aZip, wipeE, List.foldl_cons, List.foldl_nil, aCons, aStar, aAndV, aOrV, aAnd, aOr, aNotT, gNm, gTp, gNl, gCn, Rz.fin, truth, dc_eq_int, dc_ne_int, dc_eq_fr, dc_eq_str, dc_ne_str, dc_lt, dc_le, dc_gt, dc_ge, dc_is, dc_isn, List.getElem?_cons_zero, List.getElem?_cons_succ, List.set_cons_zero, List.set_cons_succ, List.map_cons, List.map_nil, List.length_cons, List.length_nil, List.replicate, List.cons_append, List.nil_append, List.append_nil, Nat.reduceAdd, Nat.reduceSub, Nat.sub_self, Nat.reduceLeDiff, if_true, if_false, Bool.false_eq_true, reduceIte, Int.cast_ofNat_Int, eq_self, decide_true, decide_false, Bool.not_true, Bool.not_false, Bool.and_self, Bool.and_true, Bool.true_and, Bool.and_false, Bool.false_and, Bool.or_false, Bool.false_or, Bool.or_true, Bool.true_or, isi1, isi2, isi3, isi4, isi5, isi6, ok_int, deq_int, view_int, view_fr, view_str, ok_fr, eq_fr, view_tup, view_lst, ty_fr, tyN, List.any_cons, List.any_nil, atI_0, atI_1, atI_2, atI_3, atI_n, most, runB_rt, runB_nx, fin_same, d1, c1, d2, db_sub]
  exact fin_len le
theorem run_num2 (d1 : cF tb N j "_law_draw" [x, .int 14] H0 = some (.int a, H1)) (c1 : ¬ a < 10) (c2 : a < 13) (d2 : cF tb N j "_law_draw" [x, .int 13] H1 = some (.int v, H2)) (d3 : cF tb N j "_law_draw" [x, .int 4] H2 = some (.int u, H3))
    (d4 : cF tb N j "_law_lean" [.int (v - 6), .int (1 + u)] H3 = some (r, H3)) (le : H3.length = H0.length) :
    runB false (dSs (cF tb N j) N b__law_number ([x].map some ++ List.replicate (2 - [x].length) none) H0) H0 = some (r, H3) := by
  simp only [b__law_number, dSs, dS_expr, dS_ret, dS_retN, dS_asg, dS_par, dS_aug, dS_ite, dS_for, dS_wh, dS_pass, dS_brk, dS_cnt, dP, dPs, dI, dG, dGs, dB, cSeq, cRet, cExpr, cAsg, cPar, setAll, cAug, augI, cIte, aVar, aC, tst, aTup, aLst, aBin, aNeg, aCmp, aChain, aNot, aIte, aIx, aO, aSl, dCut, aCall, aCallk, aBi, aMeth, aFin, aEl, aOT, aSeq, aRange1_eq, aEnum, aZip, wipeE, List.foldl_cons, List.foldl_nil, aCons, aStar, aAndV, aOrV, aAnd, aOr, aNotT, gNm, gTp, gNl, gCn, Rz.fin, truth, dc_eq_int, dc_ne_int, dc_eq_fr, dc_eq_str, dc_ne_str, dc_lt, dc_le, dc_gt, dc_ge, dc_is, dc_isn, List.getElem?_cons_zero, List.getElem?_cons_succ, List.set_cons_zero, List.set_cons_succ, List.map_cons, List.map_nil, List.length_cons, List.length_nil, List.replicate, List.cons_append, List.nil_append, List.append_nil, Nat.reduceAdd, Nat.reduceSub, Nat.sub_self, Nat.reduceLeDiff, if_true, if_false, Bool.false_eq_true, reduceIte, Int.cast_ofNat_Int, eq_self, decide_true, decide_false, Bool.not_true, Bool.not_false, Bool.and_self, Bool.and_true, Bool.true_and, Bool.and_false, Bool.false_and, Bool.or_false, Bool.false_or, Bool.or_true, Bool.true_or, isi1, isi2, isi3, isi4, isi5, isi6, ok_int, deq_int, view_int, view_fr, view_str, ok_fr, eq_fr, view_tup, view_lst, ty_fr, tyN, List.any_cons, List.any_nil, atI_0, atI_1, atI_2, atI_3, atI_n, most, runB_rt, runB_nx, fin_same, d1, c1, c2, d2, d3, d4, db_sub, db_add]
  exact fin_len le
theorem run_num3 (d1 : cF tb N j "_law_draw" [x, .int 14] H0 = some (.int a, H1)) (c1 : ¬ a < 10) (c2 : ¬ a < 13) (d2 : cF tb N j "_law_draw" [x, .int 100000000000000000000] H1 = some (.int v, H2)) (d3 : cF tb N j "_law_draw" [x, .int 60] H2 = some (.int u, H3))
    (d4 : cF tb N j "_law_lean" [.int (v - 1000000), .int (1 + u)] H3 = some (r, H3)) (le : H3.length = H0.length) :
    runB false (dSs (cF tb N j) N b__law_number ([x].map some ++ List.replicate (2 - [x].length) none) H0) H0 = some (r, H3) := by
  simp only [b__law_number, dSs, dS_expr, dS_ret, dS_retN, dS_asg, dS_par, dS_aug, dS_ite, dS_for, dS_wh, dS_pass, dS_brk, dS_cnt, dP, dPs, dI, dG, dGs, dB, cSeq, cRet, cExpr, cAsg, cPar, setAll, cAug, augI, cIte, aVar, aC, tst, aTup, aLst, aBin, aNeg, aCmp, aChain, aNot, aIte, aIx, aO, aSl, dCut, aCall, aCallk, aBi, aMeth, aFin, aEl, aOT, aSeq, aRange1_eq, aEnum, aZip, wipeE, List.foldl_cons, List.foldl_nil, aCons, aStar, aAndV, aOrV, aAnd, aOr, aNotT, gNm, gTp, gNl, gCn, Rz.fin, truth, dc_eq_int, dc_ne_int, dc_eq_fr, dc_eq_str, dc_ne_str, dc_lt, dc_le, dc_gt, dc_ge, dc_is, dc_isn, List.getElem?_cons_zero, List.getElem?_cons_succ, List.set_cons_zero, List.set_cons_succ, List.map_cons, List.map_nil, List.length_cons, List.length_nil, List.replicate, List.cons_append, List.nil_append, List.append_nil, Nat.reduceAdd, Nat.reduceSub, Nat.sub_self, Nat.reduceLeDiff, if_true, if_false, Bool.false_eq_true, reduceIte, Int.cast_ofNat_Int, eq_self, decide_true, decide_false, Bool.not_true, Bool.not_false, Bool.and_self, Bool.and_true, Bool.true_and, Bool.and_false, Bool.false_and, Bool.or_false, Bool.false_or, Bool.or_true, Bool.true_or, isi1, isi2, isi3, isi4, isi5, isi6, ok_int, deq_int, view_int, view_fr, view_str, ok_fr, eq_fr, view_tup, view_lst, ty_fr, tyN, List.any_cons, List.any_nil, atI_0, atI_1, atI_2, atI_3, atI_n, most, runB_rt, runB_nx, fin_same, d1, c1, c2, d2, d3, d4, db_sub, db_add, db_20, db_6]
  exact fin_len le
end
def M0 : Nat := 100000000000000000000
theorem D_number {i n : Nat} {w : Wl} (hK : 2 ≤ K) (hN : 1000000 ≤ N) (hi : i < h.length) (ok : WOk n w) (hn : n ≤ 900000) :
    ∃ q w', cF tb N K "_law_number" [.ref i] (h.set i (wD w)) = some (fr q, h.set i (wD w')) ∧ Q L60 M0 q ∧ WOk (n + 3) w' := by
  obtain ⟨j, rfl, hj⟩ := dep hK
  have ll : ∀ w1 w2 : Wl, (h.set i (wD w1)).length = (h.set i (wD w2)).length := fun _ _ => by rw [List.length_set, List.length_set]
  obtain ⟨a, w1, d1, a0, a1, k1⟩ := D_draw (N := N) (h := h) (few := 14) hj hi ok (by omega) (by decide)
  rw [call_at lk__law_number (by rfl)]
  by_cases c1 : a < 10
  · obtain ⟨v, w2, d2, v0, v1, k2⟩ := D_draw (N := N) (h := h) (few := 5) hj hi k1 (by omega) (by decide)
    refine ⟨((v - 1 : Int) : Rat), w2, ?_, Q.int (by decide) (by unfold M0; omega), k2.mono (by omega)⟩
    have e : fr ((v - 1 : Int) : Rat) = .tup [.int (v - 1), .int 1] := by
      unfold fr
      rw [Rat.num_intCast, Rat.den_intCast] <;> rfl
    rw [e]
    exact run_num1 d1 c1 d2 (ll _ _)
  · by_cases c2 : a < 13
    · obtain ⟨v, w2, d2, v0, v1, k2⟩ := D_draw (N := N) (h := h) (few := 13) hj hi k1 (by omega) (by decide)
      obtain ⟨u, w3, d3, u0, u1, k3⟩ := D_draw (N := N) (h := h) (few := 4) hj hi k2 (by omega) (by decide)
      have d4 := e_lean (N := N) (h := h.set i (wD w3)) (K := j) hj hN (a := v - 6) (b := 1 + u) (by omega) (Nat.lt_of_lt_of_le (by omega : (1 + u).natAbs < 2 ^ 10) (Nat.pow_le_pow_right (by decide) (by decide)))
      exact ⟨_, w3, run_num2 d1 c1 c2 d2 d3 d4 (ll _ _), Q.frac (by omega) (by omega) (by unfold M0; omega), k3⟩
    · obtain ⟨v, w2, d2, v0, v1, k2⟩ := D_draw (N := N) (h := h) (few := 100000000000000000000) hj hi k1 (by omega) (by decide)
      obtain ⟨u, w3, d3, u0, u1, k3⟩ := D_draw (N := N) (h := h) (few := 60) hj hi k2 (by omega) (by decide)
      have d4 := e_lean (N := N) (h := h.set i (wD w3)) (K := j) hj hN (a := v - 1000000) (b := 1 + u) (by omega) (Nat.lt_of_lt_of_le (by omega : (1 + u).natAbs < 2 ^ 10) (Nat.pow_le_pow_right (by decide) (by decide)))
      exact ⟨_, w3, run_num3 d1 c1 c2 d2 d3 d4 (ll _ _), Q.frac (by omega) (by omega) (by unfold M0; omega), k3⟩
end Row
namespace Row
open PySem PySem.Spec PyProof.Rows L2 Ev
variable {N K : Nat} {h : AH}
theorem bels_frs {n : Nat} : ∀ l : List Rat, D.bels n (l.map fr) = true
  | [] => rfl
  | x :: l => by simp only [List.map_cons, D.bels, fr, D.bel, Bool.true_and, bels_frs l]
/-- a def's own list is handed out, its well was written -/
theorem fin_new {i : Nat} {w w' : Wl} {xs : List D} (hi : i < h.length) (hb : D.bels h.length xs = true) : fin false (h.set i (wD w)) (h.set i (wD w') ++ [.lst xs]) (.ref h.length) = some (.lst xs, h.set i (wD w')) := by
  unfold fin
  have l0 : (h.set i (wD w)).length = h.length := List.length_set
  have l1 : (h.set i (wD w')).length = h.length := List.length_set
  have l2 : (h.set i (wD w') ++ [AO.lst xs]).length = h.length + 1 := by rw [List.length_append, l1] <;> rfl
  have ok : oldOk (h.set i (wD w)) (h.set i (wD w') ++ [.lst xs]) := by
    intro k ao hk e
    rw [l0] at hk
    rw [List.getElem?_append_left (by rw [l1]; exact hk)] at e
    by_cases z : k = i
    · subst z
      rw [List.getElem?_set_self hk] at e
      cases e
      exact .inr rfl
    · rw [List.getElem?_set_ne (Ne.symm z)] at e
      exact .inl (by rw [List.getElem?_set_ne (Ne.symm z)]; exact e)
  rw [if_neg (by rw [l2, l0]; omega), if_pos ok]
  have fz : freeze (h.set i (wD w)).length (h.set i (wD w') ++ [.lst xs]) (.ref h.length) = some (.lst xs) := by
    unfold freeze
    rw [l0, if_neg (by omega), List.getElem?_append_right (by rw [l1]; exact Nat.le_refl _), l1, Nat.sub_self]
    simp only [List.getElem?_cons_zero, hb, if_true]
  rw [fz]
  simp only [Bool.false_eq_true, if_false, Option.map_some]
  rw [l0, List.take_append_of_le_length (by rw [l1]; exact Nat.le_refl _), List.take_of_length_le (by rw [l1]; exact Nat.le_refl _)]
theorem set_app {i : Nat} {w : Wl} {xs : List D} (hi : i < h.length) : h.set i (wD w) ++ [AO.lst xs] = (h ++ [AO.lst xs]).set i (wD w) := by
  rw [List.set_append_left _ _ hi]
theorem meth_app {i : Nat} {w : Wl} {xs : List D} {d : D} (hi : i < h.length) (hl : xs.length < 1000000) : dMeth (h.set i (wD w) ++ [.lst xs]) .append (.ref h.length) [d] = some (.non, h.set i (wD w) ++ [.lst (xs ++ [d])]) := by
  have l1 : (h.set i (wD w)).length = h.length := List.length_set
  unfold dMeth dMt
  simp only
  rw [List.getElem?_append_right (by rw [l1]; exact Nat.le_refl _), l1, Nat.sub_self]
  simp only [List.getElem?_cons_zero, most, hl, if_true]
  rw [List.set_append_right _ _ (by rw [l1]; exact Nat.le_refl _), l1, Nat.sub_self] <;> rfl
theorem step_row {j : Nat} {x y p d q z : D} {zz : Option D} {H0 H1 H2 : AH} (c : cF tb N j "_law_number" [x] H0 = some (q, H1)) (m : dMeth H1 .append p [q] = some (z, H2)) :
    bodyF (cF tb N j) N (.name 3) b__law_row_1 d [some x, some y, some p, zz] H0 = some (.nx [some x, some y, some p, some d] H2) := by
  simp only [bodyF, b__law_row_1, dSs, dS_expr, dS_ret, dS_retN, dS_asg, dS_par, dS_aug, dS_ite, dS_for, dS_wh, dS_pass, dS_brk, dS_cnt, dP, dPs, dI, dG, dGs, dB, cSeq, cRet, cExpr, cAsg, cPar, setAll, cAug, augI, cIte, aVar, aC, tst, aTup, aLst, aBin, aNeg, aCmp, aChain, aNot, aIte, aIx, aO, aSl, dCut, aCall, aCallk, aBi, aMeth, aFin, aEl, aOT, aSeq, aRange1_eq, aEnum, aZip, wipeE, List.foldl_cons, List.foldl_nil, aCons, aStar, aAndV, aOrV, aAnd, aOr, aNotT, gNm, gTp, gNl, gCn, Rz.fin, truth, dc_eq_int, dc_ne_int, dc_eq_fr, dc_eq_str, dc_ne_str, dc_lt, dc_le, dc_gt, dc_ge, dc_is, dc_isn, dBin, List.getElem?_cons_zero, List.getElem?_cons_succ, List.set_cons_zero, List.set_cons_succ, List.map_cons, List.map_nil, List.length_cons, List.length_nil, List.replicate, List.cons_append, List.nil_append, List.append_nil, Nat.reduceAdd, Nat.reduceSub, Nat.sub_self, Nat.reduceLeDiff, if_true, if_false, Bool.false_eq_true, reduceIte, Int.cast_ofNat_Int, eq_self, decide_true, decide_false, Bool.not_true, Bool.not_false, Bool.and_self, Bool.and_true, Bool.true_and, Bool.and_false, Bool.false_and, Bool.or_false, Bool.false_or, Bool.or_true, Bool.true_or, isi1, isi2, isi3, isi4, isi5, isi6, ok_int, deq_int, view_int, view_fr, view_str, ok_fr, eq_fr, view_tup, view_lst, ty_fr, tyN, List.any_cons, List.any_nil, atI_0, atI_1, atI_2, atI_3, atI_n, most, runB_rt, runB_nx, fin_same, c, m]
end Row
namespace Row
open PySem PySem.Spec PyProof.Rows L2 Ev
variable {N K : Nat} {h : AH}
theorem run_row {j : Nat} {x o : D} {k : Int} {lst : List D} {z : Option D} {H0 H1 H2 : AH} (rn : rng1 k (H0 ++ [.lst []]) = some (lst, none, H0 ++ [.lst []]))
    (lp : forL none (bodyF (cF tb N j) N (.name 3) b__law_row_1) lst [some x, some (.int k), some (.ref H0.length), none] (H0 ++ [.lst []]) = some (.nx [some x, some (.int k), some (.ref H0.length), z] H1)) (fn : fin false H0 H1 (.ref H0.length) = some (o, H2)) :
    runB false (dSs (cF tb N j) N b__law_row ([x, .int k].map some ++ List.replicate (4 - [x, D.int k].length) none) H0) H0 = some (o, H2) := by
  simp only [b__law_row, dSs, dS_expr, dS_ret, dS_retN, dS_asg, dS_par, dS_aug, dS_ite, dS_for, dS_wh, dS_pass, dS_brk, dS_cnt, dP, dPs, dI, dG, dGs, dB, cSeq, cRet, cExpr, cAsg, cPar, setAll, cAug, augI, cIte, aVar, aC, tst, aTup, aLst, aBin, aNeg, aCmp, aChain, aNot, aIte, aIx, aO, aSl, dCut, aCall, aCallk, aBi, aMeth, aFin, aEl, aOT, aSeq, aRange1_eq, aEnum, aZip, wipeE, List.foldl_cons, List.foldl_nil, aCons, aStar, aAndV, aOrV, aAnd, aOr, aNotT, gNm, gTp, gNl, gCn, Rz.fin, truth, dc_eq_int, dc_ne_int, dc_eq_fr, dc_eq_str, dc_ne_str, dc_lt, dc_le, dc_gt, dc_ge, dc_is, dc_isn, dBin, List.getElem?_cons_zero, List.getElem?_cons_succ, List.set_cons_zero, List.set_cons_succ, List.map_cons, List.map_nil, List.length_cons, List.length_nil, List.replicate, List.cons_append, List.nil_append, List.append_nil, Nat.reduceAdd, Nat.reduceSub, Nat.sub_self, Nat.reduceLeDiff, if_true, if_false, Bool.false_eq_true, reduceIte, Int.cast_ofNat_Int, eq_self, decide_true, decide_false, Bool.not_true, Bool.not_false, Bool.and_self, Bool.and_true, Bool.true_and, Bool.and_false, Bool.false_and, Bool.or_false, Bool.false_or, Bool.or_true, Bool.true_or, isi1, isi2, isi3, isi4, isi5, isi6, ok_int, deq_int, view_int, view_fr, view_str, ok_fr, eq_fr, view_tup, view_lst, ty_fr, tyN, List.any_cons, List.any_nil, atI_0, atI_1, atI_2, atI_3, atI_n, most, runB_rt, runB_nx, fin_same, rn, lp, fn]
theorem D_row {i n0 : Nat} {w : Wl} {n : Nat} (hK : 3 ≤ K) (hN : 1000000 ≤ N) (hi : i < h.length) (ok : WOk n0 w) (hn0 : n0 ≤ 800000) (hn : n ≤ 50) :
    ∃ (qs : List Rat) (w' : Wl), cF tb N K "_law_row" [.ref i, .int n] (h.set i (wD w)) = some (.lst (qs.map fr), h.set i (wD w')) ∧ qs.length = n ∧ (∀ q ∈ qs, Q L60 M0 q) ∧ WOk (n0 + 3 * n) w' := by
  obtain ⟨j, rfl, hj⟩ := dep hK
  have hl : (h.set i (wD w)).length = h.length := List.length_set
  have lp := forL_inv (f := bodyF (cF tb N j) N (.name 3) b__law_row_1)
    (fun pre e H => ∃ (qs : List Rat) (w' : Wl) (z : Option D), pre.length = qs.length ∧ (∀ q ∈ qs, Q L60 M0 q) ∧ e = [some (.ref i), some (.int n), some (.ref h.length), z] ∧ H = h.set i (wD w') ++ [.lst (qs.map fr)] ∧ WOk (n0 + 3 * pre.length) w')
    (ds := (List.range n).map fun i => .int (i : Nat)) [] (e := [some (.ref i), some (.int n), some (.ref h.length), none]) (h := h.set i (wD w) ++ [.lst []]) ⟨[], w, none, rfl, (fun q hq => by cases hq), rfl, rfl, ok⟩ fun a d b e H eq ih => by
      obtain ⟨qs, w1, z, e1, e2, rfl, rfl, k1⟩ := ih
      have len : a.length + (b.length + 1) = n := by
        have := congrArg List.length eq
        simpa using this
      have hi2 : i < (h ++ [AO.lst (qs.map fr)]).length := by rw [List.length_append]; omega
      obtain ⟨q, w2, c1, c2, c3⟩ := D_number (N := N) (K := j) (h := h ++ [AO.lst (qs.map fr)]) (by omega) hN hi2 k1 (by omega)
      rw [← set_app hi, ← set_app hi] at c1
      have m := meth_app (h := h) (w := w2) (xs := qs.map fr) (d := fr q) hi (by rw [List.length_map]; omega)
      refine ⟨_, _, .inl (step_row c1 m), qs ++ [q], w2, some d, ?_, fun y hy => ?_, rfl, ?_, ?_⟩
      · rw [List.length_append, List.length_append, e1] <;> rfl
      · rcases List.mem_append.mp hy with t | t
        · exact e2 y t
        · rw [List.mem_singleton] at t; subst t; exact c2
      · rw [List.map_append] <;> rfl
      · rw [List.length_append]
        exact c3.mono (by simp only [List.length_cons, List.length_nil]; omega)
  obtain ⟨e', H', lp, qs, w', z, e1, e2, rfl, rfl, k⟩ := lp
  simp only [List.nil_append, List.length_map, List.length_range] at e1 k
  refine ⟨qs, w', ?_, e1.symm, e2, k⟩
  rw [call_at lk__law_row (by rfl)]
  have rn := rng1_nat (h := h.set i (wD w) ++ [AO.lst []]) (n := n) (by omega)
  have fn := fin_new (h := h) (i := i) (w := w) (w' := w') (xs := qs.map fr) hi (bels_frs qs)
  rw [← hl] at lp
  have fn2 : fin false (h.set i (wD w)) (h.set i (wD w') ++ [.lst (qs.map fr)]) (.ref (h.set i (wD w)).length) = some (.lst (qs.map fr), h.set i (wD w')) := by rw [hl]; exact fn
  exact run_row rn lp fn2
end Row
namespace Row
open PySem PySem.Spec PyProof.Rows L2 Ev
variable {N K : Nat} {h : AH}
/-- a comprehension over a list of the store, which stays -/
theorem lc_mapC {β : Type} {ck : Ck} {f : D → AH → Option (List D × AH)} (hc : ckOk ck h) (rd : β → D) (F : β → D) : ∀ {l : List β} {acc : List D}, (∀ b ∈ l, f (rd b) h = some ([F b], h)) → acc.length + l.length < most → lcL ck f (l.map rd) acc h = some (acc ++ l.map F, h)
  | [], acc, _, _ => by
    rw [List.map_nil, List.map_nil, List.append_nil]
    unfold lcL
    rw [if_pos hc]
  | b :: l, acc, H, hl => by
    rw [List.map_cons, List.map_cons]
    unfold lcL
    simp only [List.length_cons] at hl
    rw [if_pos hc, H b List.mem_cons_self]
    simp only [List.length_cons, List.length_nil]
    rw [if_pos (by omega), lc_mapC hc rd F (fun x hx => H x (List.mem_cons_of_mem _ hx)) (by rw [List.length_append, List.length_cons, List.length_nil]; omega), List.append_assoc] <;> rfl
theorem step_chance {j : Nat} {x y p d q z : D} {zz : Option D} {H0 H1 H2 : AH} (c : cF tb N j "_law_one" [x, .tup [.int 0, .int 1, .int 1, .int 2, .int 3, .int 0, .int 1, .int 5, .int 17]] H0 = some (q, H1)) (m : dMeth H1 .append p [q] = some (z, H2)) (e4 : Option D) :
    bodyF (cF tb N j) N (.name 3) b__law_chance_1 d [some x, some y, some p, zz, e4] H0 = some (.nx [some x, some y, some p, some d, e4] H2) := by
  simp only [bodyF, b__law_chance_1, dSs, dS_expr, dS_ret, dS_retN, dS_asg, dS_par, dS_aug, dS_ite, dS_for, dS_wh, dS_pass, dS_brk, dS_cnt, dP, dPs, dI, dG, dGs, dB, cSeq, cRet, cExpr, cAsg, cPar, setAll, cAug, augI, cIte, aVar, aC, tst, aTup, aLst, aBin, aNeg, aCmp, aChain, aNot, aIte, aIx, aO, aSl, dCut, aCall, aCallk, aBi, aMeth, aFin, aEl, aOT, aSeq, aRange1_eq, aEnum, aZip, wipeE, List.foldl_cons, List.foldl_nil, aCons, aStar, aAndV, aOrV, aAnd, aOr, aNotT, gNm, gTp, gNl, gCn, Rz.fin, truth, dc_eq_int, dc_ne_int, dc_eq_fr, dc_eq_str, dc_ne_str, dc_lt, dc_le, dc_gt, dc_ge, dc_is, dc_isn, dBin, List.getElem?_cons_zero, List.getElem?_cons_succ, List.set_cons_zero, List.set_cons_succ, List.map_cons, List.map_nil, List.length_cons, List.length_nil, List.replicate, List.cons_append, List.nil_append, List.append_nil, Nat.reduceAdd, Nat.reduceSub, Nat.sub_self, Nat.reduceLeDiff, if_true, if_false, Bool.false_eq_true, reduceIte, Int.cast_ofNat_Int, eq_self, decide_true, decide_false, Bool.not_true, Bool.not_false, Bool.and_self, Bool.and_true, Bool.true_and, Bool.and_false, Bool.false_and, Bool.or_false, Bool.false_or, Bool.or_true, Bool.true_or, isi1, isi2, isi3, isi4, isi5, isi6, ok_int, deq_int, view_int, view_fr, view_str, ok_fr, eq_fr, view_tup, view_lst, ty_fr, tyN, List.any_cons, List.any_nil, atI_0, atI_1, atI_2, atI_3, atI_n, most, runB_rt, runB_nx, fin_same, c, m]
/-- the parts that a chance is made of -/
def partL : List Nat := [0, 1, 1, 2, 3, 0, 1, 5, 17]
theorem D_part {i n0 : Nat} {w : Wl} (hK : 2 ≤ K) (hi : i < h.length) (ok : WOk n0 w) (hn : n0 ≤ 1000000) :
    ∃ (v : Nat) (w' : Wl), cF tb N K "_law_one" [.ref i, .tup [.int 0, .int 1, .int 1, .int 2, .int 3, .int 0, .int 1, .int 5, .int 17]] (h.set i (wD w)) = some (.int (v : Nat), h.set i (wD w')) ∧ v ∈ partL ∧ WOk (n0 + 1) w' := by
  obtain ⟨d, w', e, hd, k⟩ := D_one (N := N) (x := .tup [.int 0, .int 1, .int 1, .int 2, .int 3, .int 0, .int 1, .int 5, .int 17]) (.inl rfl) hK hi ok hn (by simp)
  have : d ∈ partL.map fun v => D.int (v : Nat) := hd
  obtain ⟨v, hv, rfl⟩ := List.mem_map.mp this
  exact ⟨v, w', e, hv, k⟩
theorem run_sizes {j : Nat} {x v : D} {H0 H1 : AH} (c : cF tb N j "_law_one" [x, .tup [.tup [.int 2, .int 2], .tup [.int 2, .int 3], .tup [.int 3, .int 2], .tup [.int 3, .int 3], .tup [.int 2, .int 4], .tup [.int 3, .int 3], .tup [.int 2, .int 1], .tup [.int 2, .int 5], .tup [.int 3, .int 2], .tup [.int 2, .int 3], .tup [.int 3, .int 4], .tup [.int 4, .int 2], .tup [.int 2, .int 2], .tup [.int 3, .int 1], .tup [.int 2, .int 3], .tup [.int 3, .int 3], .tup [.int 4, .int 1], .tup [.int 2, .int 4], .tup [.int 3, .int 5], .tup [.int 4, .int 3]]] H0 = some (v, H1)) (le : H1.length = H0.length) :
    runB false (dSs (cF tb N j) N b__law_sizes ([x].map some ++ List.replicate (1 - [x].length) none) H0) H0 = some (v, H1) := by
  simp only [b__law_sizes, dSs, dS_expr, dS_ret, dS_retN, dS_asg, dS_par, dS_aug, dS_ite, dS_for, dS_wh, dS_pass, dS_brk, dS_cnt, dP, dPs, dI, dG, dGs, dB, cSeq, cRet, cExpr, cAsg, cPar, setAll, cAug, augI, cIte, aVar, aC, tst, aTup, aLst, aBin, aNeg, aCmp, aChain, aNot, aIte, aIx, aO, aSl, dCut, aCall, aCallk, aBi, aMeth, aFin, aEl, aOT, aSeq, aRange1_eq, aEnum, aZip, wipeE, List.foldl_cons, List.foldl_nil, aCons, aStar, aAndV, aOrV, aAnd, aOr, aNotT, gNm, gTp, gNl, gCn, Rz.fin, truth, dc_eq_int, dc_ne_int, dc_eq_fr, dc_eq_str, dc_ne_str, dc_lt, dc_le, dc_gt, dc_ge, dc_is, dc_isn, dBin, List.getElem?_cons_zero, List.getElem?_cons_succ, List.set_cons_zero, List.set_cons_succ, List.map_cons, List.map_nil, List.length_cons, List.length_nil, List.replicate, List.cons_append, List.nil_append, List.append_nil, Nat.reduceAdd, Nat.reduceSub, Nat.sub_self, Nat.reduceLeDiff, if_true, if_false, Bool.false_eq_true, reduceIte, Int.cast_ofNat_Int, eq_self, decide_true, decide_false, Bool.not_true, Bool.not_false, Bool.and_self, Bool.and_true, Bool.true_and, Bool.and_false, Bool.false_and, Bool.or_false, Bool.false_or, Bool.or_true, Bool.true_or, isi1, isi2, isi3, isi4, isi5, isi6, ok_int, deq_int, view_int, view_fr, view_str, ok_fr, eq_fr, view_tup, view_lst, ty_fr, tyN, List.any_cons, List.any_nil, atI_0, atI_1, atI_2, atI_3, atI_n, most, runB_rt, runB_nx, fin_same, c]
  exact fin_len le
def sizeL : List (Nat × Nat) := [(2, 2), (2, 3), (3, 2), (3, 3), (2, 4), (3, 3), (2, 1), (2, 5), (3, 2), (2, 3), (3, 4), (4, 2), (2, 2), (3, 1), (2, 3), (3, 3), (4, 1), (2, 4), (3, 5), (4, 3)]
theorem D_sizes {i n0 : Nat} {w : Wl} (hK : 3 ≤ K) (hi : i < h.length) (ok : WOk n0 w) (hn : n0 ≤ 1000000) :
    ∃ (n m : Nat) (w' : Wl), cF tb N K "_law_sizes" [.ref i] (h.set i (wD w)) = some (.tup [.int n, .int m], h.set i (wD w')) ∧ 2 ≤ n ∧ n ≤ 4 ∧ 1 ≤ m ∧ m ≤ 5 ∧ WOk (n0 + 1) w' := by
  obtain ⟨j, rfl, hj⟩ := dep hK
  obtain ⟨d, w', e, hd, k⟩ := D_one (N := N) (K := j) (xs := sizeL.map fun p => D.tup [.int (p.1 : Nat), .int (p.2 : Nat)]) (.inl rfl) hj hi ok hn (by simp [sizeL])
  obtain ⟨p, hp, rfl⟩ := List.mem_map.mp hd
  have hs : ∀ p ∈ sizeL, 2 ≤ p.1 ∧ p.1 ≤ 4 ∧ 1 ≤ p.2 ∧ p.2 ≤ 5 := by decide
  obtain ⟨a1, a2, a3, a4⟩ := hs p hp
  refine ⟨p.1, p.2, w', ?_, a1, a2, a3, a4, k⟩
  rw [call_at lk__law_sizes (by rfl)]
  exact run_sizes e (by rw [List.length_set, List.length_set])
end Row
namespace Row
open PySem PySem.Spec PyProof.Rows L2 Ev
variable {N K : Nat} {h : AH}
/-! ### a drawn chance -/
theorem loop_chance {j i n0 n : Nat} {w : Wl} (hj : 2 ≤ j) (hi : i < h.length) (ok : WOk n0 w) (hn0 : n0 ≤ 800000) (hn : n ≤ 50) :
    ∃ (vs : List Nat) (w' : Wl) (z : Option D), forL none (bodyF (cF tb N j) N (.name 3) b__law_chance_1) ((List.range n).map fun i => .int (i : Nat)) [some (.ref i), some (.int n), some (.ref h.length), none, none] (h.set i (wD w) ++ [.lst []])
      = some (.nx [some (.ref i), some (.int n), some (.ref h.length), z, none] (h.set i (wD w') ++ [.lst (vs.map fun v => .int (v : Nat))])) ∧ vs.length = n ∧ (∀ v ∈ vs, v ∈ partL) ∧ WOk (n0 + n) w' := by
  have lp := forL_inv (f := bodyF (cF tb N j) N (.name 3) b__law_chance_1)
    (fun pre e H => ∃ (vs : List Nat) (w' : Wl) (z : Option D), pre.length = vs.length ∧ (∀ v ∈ vs, v ∈ partL) ∧ e = [some (.ref i), some (.int n), some (.ref h.length), z, none] ∧ H = h.set i (wD w') ++ [.lst (vs.map fun v => .int (v : Nat))] ∧ WOk (n0 + pre.length) w')
    (ds := (List.range n).map fun i => .int (i : Nat)) [] (e := [some (.ref i), some (.int n), some (.ref h.length), none, none]) (h := h.set i (wD w) ++ [.lst []]) ⟨[], w, none, rfl, (fun q hq => by cases hq), rfl, rfl, ok⟩ fun a d b e H eq ih => by
      obtain ⟨vs, w1, z, e1, e2, rfl, rfl, k1⟩ := ih
      have len : a.length + (b.length + 1) = n := by
        have := congrArg List.length eq
        simpa using this
      have hi2 : i < (h ++ [AO.lst (vs.map fun v => D.int (v : Nat))]).length := by rw [List.length_append]; omega
      obtain ⟨v, w2, c1, c2, c3⟩ := D_part (N := N) (K := j) (h := h ++ [AO.lst (vs.map fun v => D.int (v : Nat))]) hj hi2 k1 (by omega)
      rw [← set_app hi, ← set_app hi] at c1
      have m := meth_app (h := h) (w := w2) (xs := vs.map fun v => D.int (v : Nat)) (d := .int (v : Nat)) hi (by rw [List.length_map]; omega)
      refine ⟨_, _, .inl (step_chance c1 m none), vs ++ [v], w2, some d, ?_, fun y hy => ?_, rfl, ?_, ?_⟩
      · rw [List.length_append, List.length_append, e1] <;> rfl
      · rcases List.mem_append.mp hy with t | t
        · exact e2 y t
        · rw [List.mem_singleton] at t; subst t; exact c2
      · rw [List.map_append] <;> rfl
      · rw [List.length_append]
        exact c3.mono (by simp only [List.length_cons, List.length_nil]; omega)
  obtain ⟨e', H', lp, vs, w', z, e1, e2, rfl, rfl, k⟩ := lp
  simp only [List.nil_append, List.length_map, List.length_range] at e1 k
  exact ⟨vs, w', z, lp, e1.symm, e2, k⟩
end Row
namespace Row
open PySem PySem.Spec PyProof.Rows L2 Ev
variable {N K : Nat} {h : AH}
theorem freezes_frs {n : Nat} {h' : AH} : ∀ l : List Rat, freezes n h' (l.map fr) = some (l.map fr)
  | [] => rfl
  | x :: l => by
    have e : freeze n h' (fr x) = some (fr x) := rfl
    simp only [List.map_cons, freezes, e, freezes_frs l]
/-- a def's own list is dropped, its well was written, a row is handed out -/
theorem fin_drop {i : Nat} {w w' : Wl} {xs : List D} {l : List Rat} (hi : i < h.length) : fin false (h.set i (wD w)) (h.set i (wD w') ++ [.lst xs]) (rowD l) = some (rowD l, h.set i (wD w')) := by
  unfold fin
  have l0 : (h.set i (wD w)).length = h.length := List.length_set
  have l1 : (h.set i (wD w')).length = h.length := List.length_set
  have l2 : (h.set i (wD w') ++ [AO.lst xs]).length = h.length + 1 := by rw [List.length_append, l1] <;> rfl
  have ok : oldOk (h.set i (wD w)) (h.set i (wD w') ++ [.lst xs]) := by
    intro k ao hk e
    rw [l0] at hk
    rw [List.getElem?_append_left (by rw [l1]; exact hk)] at e
    by_cases z : k = i
    · subst z
      rw [List.getElem?_set_self hk] at e
      cases e
      exact .inr rfl
    · rw [List.getElem?_set_ne (Ne.symm z)] at e
      exact .inl (by rw [List.getElem?_set_ne (Ne.symm z)]; exact e)
  rw [if_neg (by rw [l2, l0]; omega), if_pos ok]
  have fz : freeze (h.set i (wD w)).length (h.set i (wD w') ++ [.lst xs]) (rowD l) = some (rowD l) := by
    unfold rowD
    simp only [freeze, freezes_frs, Option.map_some]
  rw [fz]
  simp only [Bool.false_eq_true, if_false, Option.map_some]
  rw [l0, List.take_append_of_le_length (by rw [l1]; exact Nat.le_refl _), List.take_of_length_le (by rw [l1]; exact Nat.le_refl _)]
section
variable {j : Nat} {x p o : D} {k s t : Int} {lst l : List D} {z : Option D} {H0 H1 H2 H3 H4 : AH}
theorem run_chanceA (rn : rng1 k (H0 ++ [.lst []]) = some (lst, none, H0 ++ [.lst []])) (lp : forL none (bodyF (cF tb N j) N (.name 3) b__law_chance_1) lst [some x, some (.int k), some (.ref H0.length), none, none] (H0 ++ [.lst []]) = some (.nx [some x, some (.int k), some (.ref H0.length), z, none] H1))
    (sm : dBI H1 .sum [.ref H0.length] = some (.val (.int s))) (s0 : ¬ s = 0) (q : dGn (cF tb N j) g__law_chance_1 [some x, some (.int k), some (.ref H0.length), z, none] H1 = some (l, H1)) (tu : dBI H1 .tuple [.lst l] = some (.val o)) (fn : fin false H0 H1 o = some (o, H2)) :
    runB false (dSs (cF tb N j) N b__law_chance ([x, .int k].map some ++ List.replicate (5 - [x, D.int k].length) none) H0) H0 = some (o, H2) := by
  simp only [b__law_chance, dSs, dS_expr, dS_ret, dS_retN, dS_asg, dS_par, dS_aug, dS_ite, dS_for, dS_wh, dS_pass, dS_brk, dS_cnt, dP, dPs, dI, dG, dGs, dB, cSeq, cRet, cExpr, cAsg, cPar, setAll, cAug, augI, cIte, aVar, aC, tst, aTup, aLst, aBin, aNeg, aCmp, aChain, aNot, aIte, aIx, aO, aSl, dCut, aCall, aCallk, aBi, aMeth, aFin, aEl, aOT, aSeq, aRange1_eq, aEnum, aZip, wipeE, List.foldl_cons, List.foldl_nil, aCons, aStar, aAndV, aOrV, aAnd, aOr, aNotT, gNm, gTp, gNl, gCn, Rz.fin, truth, dc_eq_int, dc_ne_int, dc_eq_fr, dc_eq_str, dc_ne_str, dc_lt, dc_le, dc_gt, dc_ge, dc_is, dc_isn, dBin, List.getElem?_cons_zero, List.getElem?_cons_succ, List.set_cons_zero, List.set_cons_succ, List.map_cons, List.map_nil, List.length_cons, List.length_nil, List.replicate, List.cons_append, List.nil_append, List.append_nil, Nat.reduceAdd, Nat.reduceSub, Nat.sub_self, Nat.reduceLeDiff, if_true, if_false, Bool.false_eq_true, reduceIte, Int.cast_ofNat_Int, eq_self, decide_true, decide_false, Bool.not_true, Bool.not_false, Bool.and_self, Bool.and_true, Bool.true_and, Bool.and_false, Bool.false_and, Bool.or_false, Bool.false_or, Bool.or_true, Bool.true_or, isi1, isi2, isi3, isi4, isi5, isi6, ok_int, deq_int, view_int, view_fr, view_str, ok_fr, eq_fr, view_tup, view_lst, ty_fr, tyN, List.any_cons, List.any_nil, atI_0, atI_1, atI_2, atI_3, atI_n, most, runB_rt, runB_nx, fin_same, rn, lp, sm, s0, q, tu, fn]
theorem run_chanceB (rn : rng1 k (H0 ++ [.lst []]) = some (lst, none, H0 ++ [.lst []])) (lp : forL none (bodyF (cF tb N j) N (.name 3) b__law_chance_1) lst [some x, some (.int k), some (.ref H0.length), none, none] (H0 ++ [.lst []]) = some (.nx [some x, some (.int k), some (.ref H0.length), z, none] H1))
    (sm : dBI H1 .sum [.ref H0.length] = some (.val (.int 0))) (dr : cF tb N j "_law_draw" [x, .int k] H1 = some (.int t, H2)) (pt : putD H2 H0.length t (.int 1) = some H3) (q : dGn (cF tb N j) g__law_chance_1 [some x, some (.int k), some (.ref H0.length), z, none] H3 = some (l, H3))
    (tu : dBI H3 .tuple [.lst l] = some (.val o)) (fn : fin false H0 H3 o = some (o, H4)) :
    runB false (dSs (cF tb N j) N b__law_chance ([x, .int k].map some ++ List.replicate (5 - [x, D.int k].length) none) H0) H0 = some (o, H4) := by
  simp only [b__law_chance, dSs, dS_expr, dS_ret, dS_retN, dS_asg, dS_par, dS_aug, dS_ite, dS_for, dS_wh, dS_pass, dS_brk, dS_cnt, dP, dPs, dI, dG, dGs, dB, cSeq, cRet, cExpr, cAsg, cPar, setAll, cAug, augI, cIte, aVar, aC, tst, aTup, aLst, aBin, aNeg, aCmp, aChain, aNot, aIte, aIx, aO, aSl, dCut, aCall, aCallk, aBi, aMeth, aFin, aEl, aOT, aSeq, aRange1_eq, aEnum, aZip, wipeE, List.foldl_cons, List.foldl_nil, aCons, aStar, aAndV, aOrV, aAnd, aOr, aNotT, gNm, gTp, gNl, gCn, Rz.fin, truth, dc_eq_int, dc_ne_int, dc_eq_fr, dc_eq_str, dc_ne_str, dc_lt, dc_le, dc_gt, dc_ge, dc_is, dc_isn, dBin, List.getElem?_cons_zero, List.getElem?_cons_succ, List.set_cons_zero, List.set_cons_succ, List.map_cons, List.map_nil, List.length_cons, List.length_nil, List.replicate, List.cons_append, List.nil_append, List.append_nil, Nat.reduceAdd, Nat.reduceSub, Nat.sub_self, Nat.reduceLeDiff, if_true, if_false, Bool.false_eq_true, reduceIte, Int.cast_ofNat_Int, eq_self, decide_true, decide_false, Bool.not_true, Bool.not_false, Bool.and_self, Bool.and_true, Bool.true_and, Bool.and_false, Bool.false_and, Bool.or_false, Bool.false_or, Bool.or_true, Bool.true_or, isi1, isi2, isi3, isi4, isi5, isi6, ok_int, deq_int, view_int, view_fr, view_str, ok_fr, eq_fr, view_tup, view_lst, ty_fr, tyN, List.any_cons, List.any_nil, atI_0, atI_1, atI_2, atI_3, atI_n, most, runB_rt, runB_nx, fin_same, gSb_eq, rn, lp, sm, dr, pt, q, tu, fn]
end
end Row
namespace Row
open PySem PySem.Spec PyProof.Rows L2 Ev
variable {N K : Nat} {h : AH}
def chR (vs : List Nat) : List Rat := vs.map fun v : Nat => mkRat (v : Int) vs.sum
theorem sum_mk {S : Nat} (hS : S ≠ 0) : ∀ (vs : List Nat) (a : Nat), (vs.map fun v : Nat => mkRat (v : Int) S).foldl (fun s x => s + x) (mkRat (a : Int) S) = mkRat ((a + vs.sum : Nat) : Int) S
  | [], a => by simp
  | v :: vs, a => by
    have e : mkRat (a : Int) S + mkRat (v : Int) S = mkRat ((a + v : Nat) : Int) S := by
      rw [Rat.mkRat_add_mkRat _ _ hS hS, ← Int.add_mul, Int.mul_comm, Rat.mkRat_mul_left hS, Int.natCast_add]
    rw [List.map_cons, List.foldl_cons, e, sum_mk hS vs (a + v), List.sum_cons, Nat.add_assoc]
theorem sum_ch {vs : List Nat} (h0 : vs.sum ≠ 0) : sumR (chR vs) = 1 := by
  unfold sumR chR
  have z : (0 : Rat) = mkRat ((0 : Nat) : Int) vs.sum := by simp [Rat.mkRat_zero]
  rw [z, sum_mk h0 vs 0, Nat.zero_add]
  have := Rat.mkRat_mul_left (n := 1) (d := 1) h0
  rw [Nat.mul_one, Int.mul_one] at this
  rw [this] <;> rfl
theorem ch_pos {vs : List Nat} : ∀ x ∈ chR vs, 0 ≤ x := fun x hx => by
  obtain ⟨v, hv, rfl⟩ := List.mem_map.mp hx
  rw [← Rat.num_nonneg]
  by_cases z : vs.sum = 0
  · rw [z, Rat.mkRat_zero]
    decide
  · rw [(mk_num z).1]
    exact Int.ediv_nonneg (by omega) (by omega)
end Row
namespace Row
open PySem PySem.Spec PyProof.Rows L2 Ev
variable {N K : Nat} {h : AH}
def intsD (vs : List Nat) : List D := vs.map fun v => .int (v : Nat)
theorem dints_map : ∀ vs : List Nat, dints (intsD vs) = some (vs.map fun v : Nat => (v : Int))
  | [] => rfl
  | v :: vs => by
    unfold intsD
    rw [List.map_cons, List.map_cons]
    unfold dints
    have := dints_map vs
    unfold intsD at this
    rw [this] <;> rfl
theorem sum_int : ∀ vs : List Nat, (vs.map fun v : Nat => (v : Int)).sum = (vs.sum : Nat)
  | [] => rfl
  | v :: vs => by rw [List.map_cons, List.sum_cons, List.sum_cons, sum_int vs, Int.natCast_add]
theorem sum_ref {i : Nat} {w : Wl} {vs : List Nat} : dBI (h.set i (wD w) ++ [.lst (intsD vs)]) .sum [.ref h.length] = some (.val (.int (vs.sum : Nat))) := by
  have l1 : (h.set i (wD w)).length = h.length := List.length_set
  have e : lstOf (h.set i (wD w) ++ [AO.lst (intsD vs)]) (.ref h.length) = some (intsD vs) := by
    unfold lstOf
    simp only
    rw [List.getElem?_append_right (by rw [l1]; exact Nat.le_refl _), l1, Nat.sub_self] <;> rfl
  unfold dBI dB1
  simp only [e, dints_map, sum_int]
theorem turn_chance {j : Nat} {x y p d r z : D} {k s : Int} {H : AH} (sm : dBI H .sum [p] = some (.val (.int s))) (c : cF tb N j "_law_lean" [d, .int s] H = some (r, H)) {zz : Option D} : gnF (cF tb N j) g__law_chance_1 [some x, some y, some p, zz, none] d H = some ([r], H) := by
  simp only [gnF, g__law_chance_1, dSs, dS_expr, dS_ret, dS_retN, dS_asg, dS_par, dS_aug, dS_ite, dS_for, dS_wh, dS_pass, dS_brk, dS_cnt, dP, dPs, dI, dG, dGs, dB, cSeq, cRet, cExpr, cAsg, cPar, setAll, cAug, augI, cIte, aVar, aC, tst, aTup, aLst, aBin, aNeg, aCmp, aChain, aNot, aIte, aIx, aO, aSl, dCut, aCall, aCallk, aBi, aMeth, aFin, aEl, aOT, aSeq, aRange1_eq, aEnum, aZip, wipeE, List.foldl_cons, List.foldl_nil, aCons, aStar, aAndV, aOrV, aAnd, aOr, aNotT, gNm, gTp, gNl, gCn, Rz.fin, truth, dc_eq_int, dc_ne_int, dc_eq_fr, dc_eq_str, dc_ne_str, dc_lt, dc_le, dc_gt, dc_ge, dc_is, dc_isn, dBin, List.getElem?_cons_zero, List.getElem?_cons_succ, List.set_cons_zero, List.set_cons_succ, List.map_cons, List.map_nil, List.length_cons, List.length_nil, List.replicate, List.cons_append, List.nil_append, List.append_nil, Nat.reduceAdd, Nat.reduceSub, Nat.sub_self, Nat.reduceLeDiff, if_true, if_false, Bool.false_eq_true, reduceIte, Int.cast_ofNat_Int, eq_self, decide_true, decide_false, Bool.not_true, Bool.not_false, Bool.and_self, Bool.and_true, Bool.true_and, Bool.and_false, Bool.false_and, Bool.or_false, Bool.false_or, Bool.or_true, Bool.true_or, isi1, isi2, isi3, isi4, isi5, isi6, ok_int, deq_int, view_int, view_fr, view_str, ok_fr, eq_fr, view_tup, view_lst, ty_fr, tyN, List.any_cons, List.any_nil, atI_0, atI_1, atI_2, atI_3, atI_n, most, runB_rt, runB_nx, fin_same, sm, c]
theorem gn_chance {i j : Nat} {w : Wl} {vs : List Nat} {x y : D} {zz : Option D} (hj : 1 ≤ j) (hN : 1000000 ≤ N) (h0 : vs.sum ≠ 0) (hs : vs.sum < 2 ^ 20) (hl : vs.length ≤ 50) :
    dGn (cF tb N j) g__law_chance_1 [some x, some y, some (.ref h.length), zz, none] (h.set i (wD w) ++ [.lst (intsD vs)]) = some ((chR vs).map fr, h.set i (wD w) ++ [.lst (intsD vs)]) := by
  have l1 : (h.set i (wD w)).length = h.length := List.length_set
  have g : (h.set i (wD w) ++ [AO.lst (intsD vs)])[h.length]? = some (.lst (intsD vs)) := by
    rw [List.getElem?_append_right (by rw [l1]; exact Nat.le_refl _), l1, Nat.sub_self] <;> rfl
  have src : gnS (cF tb N j) g__law_chance_1 [some x, some y, some (.ref h.length), zz, none] (h.set i (wD w) ++ [.lst (intsD vs)]) = some (intsD vs, some (h.length, intsD vs), h.set i (wD w) ++ [.lst (intsD vs)]) := by
    rw [gs__law_chance_1]
    simp only [dI, dP, aSeq, aVar, List.getElem?_cons_zero, List.getElem?_cons_succ, g]
  refine gn_of src ?_
  have q := lc_mapC (ck := some (h.length, intsD vs)) (f := gnF (cF tb N j) g__law_chance_1 [some x, some y, some (.ref h.length), zz, none]) (h := h.set i (wD w) ++ [AO.lst (intsD vs)]) (show ckOk _ _ from g) (fun v : Nat => D.int (v : Nat)) (fun v : Nat => fr (mkRat (v : Int) vs.sum)) (l := vs) (acc := []) (fun v hv => ?_) (by unfold most; simp only [List.length_nil]; omega)
  · rw [List.nil_append] at q
    have e : vs.map (fun v : Nat => fr (mkRat (v : Int) vs.sum)) = (chR vs).map fr := by unfold chR; rw [List.map_map] <;> rfl
    rw [e] at q
    exact q
  · have c := e_lean (N := N) (K := j) (h := h.set i (wD w) ++ [.lst (intsD vs)]) hj hN (a := (v : Int)) (b := (vs.sum : Nat)) (by omega) (Nat.lt_of_lt_of_le (by rw [Int.natAbs_natCast]; exact hs) (Nat.pow_le_pow_right (by decide) (by decide)))
    rw [Int.toNat_natCast] at c
    exact turn_chance (k := 0) (z := .non) sum_ref c
end Row
namespace Row
open PySem PySem.Spec PyProof.Rows L2 Ev
variable {N K : Nat} {h : AH}
theorem part_le : ∀ v ∈ partL, v ≤ 17 := by decide
theorem sum_le : ∀ {vs : List Nat}, (∀ v ∈ vs, v ∈ partL) → vs.sum ≤ 17 * vs.length
  | [], _ => Nat.le_refl _
  | v :: vs, hv => by
    have a := part_le v (hv v List.mem_cons_self)
    have b := sum_le (vs := vs) fun x hx => hv x (List.mem_cons_of_mem _ hx)
    rw [List.sum_cons, List.length_cons]
    omega
theorem mem_le_sum : ∀ {vs : List Nat} {v : Nat}, v ∈ vs → v ≤ vs.sum
  | [], _, h => by cases h
  | a :: vs, v, h => by
    rw [List.sum_cons]
    rcases List.mem_cons.mp h with e | e
    · subst e; omega
    · have := mem_le_sum e
      omega
theorem D_chance {i n0 n : Nat} {w : Wl} (hK : 3 ≤ K) (hN : 1000000 ≤ N) (hi : i < h.length) (ok : WOk n0 w) (hn0 : n0 ≤ 700000) (h1 : 1 ≤ n) (hn : n ≤ 50) :
    ∃ (vs : List Nat) (w' : Wl), cF tb N K "_law_chance" [.ref i, .int n] (h.set i (wD w)) = some (rowD (chR vs), h.set i (wD w')) ∧ vs.length = n ∧ vs.sum ≠ 0 ∧ (∀ v ∈ vs, v ∈ partL) ∧ WOk (n0 + n + 1) w' := by
  obtain ⟨j, rfl, hj⟩ := dep hK
  have hl : ∀ w : Wl, (h.set i (wD w)).length = h.length := fun _ => List.length_set
  obtain ⟨vs, w1, z, lp, e1, e2, k1⟩ := loop_chance (N := N) (h := h) (j := j) (by omega) hi ok (by omega) hn
  have rn := rng1_nat (h := h.set i (wD w) ++ [AO.lst []]) (n := n) (by omega)
  have sl := sum_le e2
  have sm := sum_ref (h := h) (i := i) (w := w1) (vs := vs)
  rw [call_at lk__law_chance (by rfl)]
  by_cases s0 : vs.sum = 0
  · have hi2 : i < (h ++ [AO.lst (intsD vs)]).length := by rw [List.length_append]; omega
    obtain ⟨t, w2, dr, t0, t1, k2⟩ := D_draw (N := N) (K := j) (h := h ++ [AO.lst (intsD vs)]) (few := (n : Int)) (by omega) hi2 k1 (by omega) (by omega)
    rw [← set_app hi, ← set_app hi] at dr
    obtain ⟨u, rfl⟩ : ∃ u : Nat, t = u := ⟨t.toNat, by omega⟩
    have hu : u < vs.length := by omega
    have l1 := hl w2
    have pt : putD (h.set i (wD w2) ++ [AO.lst (intsD vs)]) h.length (u : Int) (.int 1) = some (h.set i (wD w2) ++ [AO.lst (intsD (vs.set u 1))]) := by
      unfold putD
      rw [List.getElem?_append_right (by rw [l1]; exact Nat.le_refl _), l1, Nat.sub_self]
      simp only [List.getElem?_cons_zero]
      have e : ixN (intsD vs).length (u : Int) = some u := by
        unfold ixN intsD
        rw [List.length_map, if_pos (by omega), if_pos (by omega), Int.toNat_natCast]
      rw [e]
      simp only
      rw [List.set_append_right _ _ (by rw [l1]; exact Nat.le_refl _), l1, Nat.sub_self]
      unfold intsD
      rw [List.map_set] <;> rfl
    have m2 : ∀ v ∈ vs.set u 1, v ∈ partL := fun v hv => by
      rcases List.mem_or_eq_of_mem_set hv with q | q
      · exact e2 v q
      · subst q; decide
    have l3 : (vs.set u 1).length = n := by rw [List.length_set]; exact e1
    have s2 : (vs.set u 1).sum ≠ 0 := fun q => by
      have : 1 ∈ vs.set u 1 := List.mem_iff_getElem?.2 ⟨u, List.getElem?_set_self hu⟩
      have := mem_le_sum this
      omega
    have sl2 := sum_le m2
    have q := gn_chance (N := N) (h := h) (i := i) (j := j) (w := w2) (vs := vs.set u 1) (x := .ref i) (y := .int n) (zz := z) (by omega) hN s2 (by omega) (by omega)
    refine ⟨vs.set u 1, w2, ?_, l3, s2, m2, k2⟩
    rw [s0] at sm
    have fn := fin_drop (h := h) (i := i) (w := w) (w' := w2) (xs := intsD (vs.set u 1)) (l := chR (vs.set u 1)) hi
    have hr : (h.set i (wD w)).length = h.length := hl w
    rw [← hr] at lp sm pt q
    exact run_chanceB rn lp sm dr pt q (by rfl) fn
  · have q := gn_chance (N := N) (h := h) (i := i) (j := j) (w := w1) (vs := vs) (x := .ref i) (y := .int n) (zz := z) (by omega) hN s0 (by omega) (by omega)
    refine ⟨vs, w1, ?_, e1, s0, e2, k1.mono (by omega)⟩
    have fn := fin_drop (h := h) (i := i) (w := w) (w' := w1) (xs := intsD vs) (l := chR vs) hi
    have hr : (h.set i (wD w)).length = h.length := hl w
    rw [← hr] at lp sm q
    exact run_chanceA rn lp sm (by omega) q (by rfl) fn
end Row
namespace Row
open PySem PySem.Spec PyProof.Rows L2 Ev
variable {N K : Nat} {h : AH}
/-- a comprehension whose items draw: an invariant over what is done -/
theorem lcL_inv {f : D → AH → Option (List D × AH)} (I : List D → List D → AH → Prop) : ∀ {ds : List D} (pre : List D) {acc : List D} {h : AH}, I pre acc h → acc.length + ds.length < most → (∀ a d b acc h, a ++ d :: b = pre ++ ds → I a acc h → ∃ x h', f d h = some ([x], h') ∧ I (a ++ [d]) (acc ++ [x]) h') →
    ∃ acc' h', lcL none f ds acc h = some (acc', h') ∧ I (pre ++ ds) acc' h'
  | [], pre, acc, h, i, _, _ => ⟨acc, h, by unfold lcL; rw [if_pos (by exact trivial)], by rw [List.append_nil]; exact i⟩
  | d :: ds, pre, acc, h, i, hl, s => by
    obtain ⟨x, h1, q, i1⟩ := s pre d ds acc h rfl i
    simp only [List.length_cons] at hl
    obtain ⟨acc2, h2, q2, i2⟩ := lcL_inv I (ds := ds) (pre ++ [d]) i1 (by rw [List.length_append, List.length_cons, List.length_nil]; omega) fun a d' b acc h eq => s a d' b acc h (by rw [eq, List.append_assoc] <;> rfl)
    refine ⟨acc2, h2, ?_, by rw [List.append_assoc] at i2; exact i2⟩
    unfold lcL
    rw [if_pos (by exact trivial), q]
    simp only [List.length_cons, List.length_nil]
    rw [if_pos (by omega)]
    exact q2
end Row
namespace Row
open PySem PySem.Spec PyProof.Rows L2 Ev
variable {N K : Nat} {h : AH}
theorem turn_spot {j : Nat} {d q : D} {H H' : AH} {e0 e1 e2 e3 e4 e5 e6 e7 e8 e9 e10 e11 e12 e13 e14 e15 : Option D} {x : D} (h0 : e0 = some x) (c : cF tb N j "_law_draw" [x, .int 5] H = some (q, H')) :
    gnF (cF tb N j) g__law_pays_6 [e0, e1, e2, e3, e4, e5, e6, e7, e8, e9, e10, e11, e12, e13, e14, e15] d H = some ([q], H') := by
  subst h0
  simp only [gnF, g__law_pays_6, dSs, dS_expr, dS_ret, dS_retN, dS_asg, dS_par, dS_aug, dS_ite, dS_for, dS_wh, dS_pass, dS_brk, dS_cnt, dP, dPs, dI, dG, dGs, dB, cSeq, cRet, cExpr, cAsg, cPar, setAll, cAug, augI, cIte, aVar, aC, tst, aTup, aLst, aBin, aNeg, aCmp, aChain, aNot, aIte, aIx, aO, aSl, dCut, aCall, aCallk, aBi, aMeth, aFin, aEl, aOT, aSeq, aRange1_eq, aEnum, aZip, wipeE, List.foldl_cons, List.foldl_nil, aCons, aStar, aAndV, aOrV, aAnd, aOr, aNotT, gNm, gTp, gNl, gCn, Rz.fin, truth, dc_eq_int, dc_ne_int, dc_eq_fr, dc_eq_str, dc_ne_str, dc_lt, dc_le, dc_gt, dc_ge, dc_is, dc_isn, dBin, List.getElem?_cons_zero, List.getElem?_cons_succ, List.set_cons_zero, List.set_cons_succ, List.map_cons, List.map_nil, List.length_cons, List.length_nil, List.replicate, List.cons_append, List.nil_append, List.append_nil, Nat.reduceAdd, Nat.reduceSub, Nat.sub_self, Nat.reduceLeDiff, if_true, if_false, Bool.false_eq_true, reduceIte, Int.cast_ofNat_Int, eq_self, decide_true, decide_false, Bool.not_true, Bool.not_false, Bool.and_self, Bool.and_true, Bool.true_and, Bool.and_false, Bool.false_and, Bool.or_false, Bool.false_or, Bool.or_true, Bool.true_or, isi1, isi2, isi3, isi4, isi5, isi6, ok_int, deq_int, view_int, view_fr, view_str, ok_fr, eq_fr, view_tup, view_lst, ty_fr, tyN, List.any_cons, List.any_nil, atI_0, atI_1, atI_2, atI_3, atI_n, most, runB_rt, runB_nx, fin_same, c]
/-- numbers below five, n of them -/
theorem D_spot {j i n0 n : Nat} {w : Wl} {d2 d3 d4 d5 d6 d7 d8 d9 d10 d11 d12 d13 d14 d15 : Option D} (hj : 1 ≤ j) (hi : i < h.length) (ok : WOk n0 w) (hn0 : n0 ≤ 700000) (hn : n ≤ 50) :
    ∃ (vs : List Nat) (w' : Wl), dGn (cF tb N j) g__law_pays_6 [some (.ref i), some (.int n), d2, d3, d4, d5, d6, d7, d8, d9, d10, d11, d12, d13, d14, d15] (h.set i (wD w)) = some (intsD vs, h.set i (wD w')) ∧ vs.length = n ∧ (∀ v ∈ vs, v < 5) ∧ WOk (n0 + n) w' := by
  obtain ⟨acc, H, lc, vs, w', rfl, rfl, e1, e2, k⟩ := lcL_inv (f := gnF (cF tb N j) g__law_pays_6 [some (.ref i), some (.int n), d2, d3, d4, d5, d6, d7, d8, d9, d10, d11, d12, d13, d14, d15])
    (fun pre acc H => ∃ (vs : List Nat) (w' : Wl), acc = intsD vs ∧ H = h.set i (wD w') ∧ pre.length = vs.length ∧ (∀ v ∈ vs, v < 5) ∧ WOk (n0 + pre.length) w')
    (ds := (List.range n).map fun i => .int (i : Nat)) [] (acc := []) (h := h.set i (wD w)) ⟨[], w, rfl, rfl, rfl, (fun q hq => by cases hq), ok⟩ (by unfold most; simp only [List.length_nil, List.length_map, List.length_range]; omega) fun a d b acc H eq ih => by
      obtain ⟨vs, w1, rfl, rfl, e1, e2, k1⟩ := ih
      have len : a.length + (b.length + 1) = n := by
        have := congrArg List.length eq
        simpa using this
      obtain ⟨v, w2, c, v0, v1, k2⟩ := D_draw (N := N) (K := j) (h := h) (few := 5) hj hi k1 (by omega) (by decide)
      obtain ⟨u, rfl⟩ : ∃ u : Nat, v = u := ⟨v.toNat, by omega⟩
      refine ⟨_, _, turn_spot rfl c, vs ++ [u], w2, ?_, rfl, ?_, fun y hy => ?_, ?_⟩
      · unfold intsD
        rw [List.map_append] <;> rfl
      · rw [List.length_append, List.length_append, e1] <;> rfl
      · rcases List.mem_append.mp hy with t | t
        · exact e2 y t
        · rw [List.mem_singleton] at t; subst t; omega
      · rw [List.length_append]
        exact k2.mono (by simp only [List.length_cons, List.length_nil]; omega)
  simp only [List.nil_append, List.length_map, List.length_range] at e1 k
  refine ⟨vs, w', gn_of (ds := (List.range n).map fun i => .int (i : Nat)) (ck := none) (h1 := h.set i (wD w)) ?_ lc, e1.symm, e2, k⟩
  have rn := rng1_nat (h := h.set i (wD w)) (n := n) (by omega)
  rw [gs__law_pays_6, ← rn]
  simp only [dI, dP, aRange1_eq, aVar, List.getElem?_cons_zero, List.getElem?_cons_succ]
end Row
namespace Row
open PySem PySem.Spec PyProof.Rows L2 Ev
variable {N K : Nat} {h : AH}
theorem fr_int (v : Int) : fr (v : Rat) = .tup [.int v, .int 1] := by
  unfold fr
  rw [Rat.num_intCast, Rat.den_intCast] <;> rfl
theorem sq_le : ∀ {vs : List Nat}, (∀ v ∈ vs, v < 5) → (vs.map fun v => v * v).sum ≤ 16 * vs.length
  | [], _ => Nat.le_refl _
  | v :: vs, hv => by
    have a := hv v List.mem_cons_self
    have b := sq_le (vs := vs) fun x hx => hv x (List.mem_cons_of_mem _ hx)
    have c : v * v ≤ 4 * 4 := Nat.mul_le_mul (by omega) (by omega)
    rw [List.map_cons, List.sum_cons, List.length_cons]
    omega
theorem turn_sq {j : Nat} {H : AH} {e0 e1 e2 e3 e4 e5 e6 e7 e8 e9 e10 e11 e12 e13 e14 e15 : Option D} {v : Int} (m : mulOk v v = true) :
    gnF (cF tb N j) g__law_pays_4 [e0, e1, e2, e3, e4, e5, e6, e7, e8, e9, e10, e11, e12, e13, e14, e15] (.int v) H = some ([.int (v * v)], H) := by
  simp only [gnF, g__law_pays_4, dSs, dS_expr, dS_ret, dS_retN, dS_asg, dS_par, dS_aug, dS_ite, dS_for, dS_wh, dS_pass, dS_brk, dS_cnt, dP, dPs, dI, dG, dGs, dB, cSeq, cRet, cExpr, cAsg, cPar, setAll, cAug, augI, cIte, aVar, aC, tst, aTup, aLst, aBin, aNeg, aCmp, aChain, aNot, aIte, aIx, aO, aSl, dCut, aCall, aCallk, aBi, aMeth, aFin, aEl, aOT, aSeq, aRange1_eq, aEnum, aZip, wipeE, List.foldl_cons, List.foldl_nil, aCons, aStar, aAndV, aOrV, aAnd, aOr, aNotT, gNm, gTp, gNl, gCn, Rz.fin, truth, dc_eq_int, dc_ne_int, dc_eq_fr, dc_eq_str, dc_ne_str, dc_lt, dc_le, dc_gt, dc_ge, dc_is, dc_isn, dBin, List.getElem?_cons_zero, List.getElem?_cons_succ, List.set_cons_zero, List.set_cons_succ, List.map_cons, List.map_nil, List.length_cons, List.length_nil, List.replicate, List.cons_append, List.nil_append, List.append_nil, Nat.reduceAdd, Nat.reduceSub, Nat.sub_self, Nat.reduceLeDiff, if_true, if_false, Bool.false_eq_true, reduceIte, Int.cast_ofNat_Int, eq_self, decide_true, decide_false, Bool.not_true, Bool.not_false, Bool.and_self, Bool.and_true, Bool.true_and, Bool.and_false, Bool.false_and, Bool.or_false, Bool.false_or, Bool.or_true, Bool.true_or, isi1, isi2, isi3, isi4, isi5, isi6, ok_int, deq_int, view_int, view_fr, view_str, ok_fr, eq_fr, view_tup, view_lst, ty_fr, tyN, List.any_cons, List.any_nil, atI_0, atI_1, atI_2, atI_3, atI_n, most, runB_rt, runB_nx, fin_same, m]
theorem gn_sq {j : Nat} {H : AH} {e0 e1 e2 e3 e4 e5 e6 e7 e8 e10 e11 e12 e13 e14 e15 : Option D} {vs : List Nat} (hv : ∀ v ∈ vs, v < 5) (hl : vs.length ≤ 50) :
    dGn (cF tb N j) g__law_pays_4 [e0, e1, e2, e3, e4, e5, e6, e7, e8, some (.lst (intsD vs)), e10, e11, e12, e13, e14, e15] H = some (intsD (vs.map fun v => v * v), H) := by
  refine gn_of (ds := intsD vs) (ck := none) (h1 := H) ?_ ?_
  · rw [gs__law_pays_4]
    simp only [dI, dP, aSeq, aVar, seqOf, lstOf, List.getElem?_cons_zero, List.getElem?_cons_succ]
  · unfold intsD
    rw [List.map_map]
    refine lc_mapR (fun v : Nat => D.int (v : Nat)) _ (fun v hv2 => ?_) (by unfold most; omega)
    have := hv v hv2
    rw [turn_sq (mulOk_of (a := 10) (b := 10) (by omega) (by omega) (by decide)), Function.comp_apply, Int.natCast_mul]
theorem turn_near {j : Nat} {H : AH} {e0 e1 e2 e3 e4 e5 e6 e7 e8 e9 e10 e11 e12 e13 e14 e15 : Option D} {v s : Int} {zs : List D} (m : mulOk 8 v = true) (q : dGn (cF tb N j) g__law_pays_4 [e0, e1, e2, e3, e4, e5, e6, e7, e8, e9, e10, e11, e12, e13, some (.int v), e15] H = some (zs, H)) (sm : dBI H .sum [.lst zs] = some (.val (.int s))) :
    gnF (cF tb N j) g__law_pays_5 [e0, e1, e2, e3, e4, e5, e6, e7, e8, e9, e10, e11, e12, e13, e14, e15] (.int v) H = some ([.tup [.int (8 * v - s), .int 1]], H) := by
  simp only [gnF, g__law_pays_5, dSs, dS_expr, dS_ret, dS_retN, dS_asg, dS_par, dS_aug, dS_ite, dS_for, dS_wh, dS_pass, dS_brk, dS_cnt, dP, dPs, dI, dG, dGs, dB, cSeq, cRet, cExpr, cAsg, cPar, setAll, cAug, augI, cIte, aVar, aC, tst, aTup, aLst, aBin, aNeg, aCmp, aChain, aNot, aIte, aIx, aO, aSl, dCut, aCall, aCallk, aBi, aMeth, aFin, aEl, aOT, aSeq, aRange1_eq, aEnum, aZip, wipeE, List.foldl_cons, List.foldl_nil, aCons, aStar, aAndV, aOrV, aAnd, aOr, aNotT, gNm, gTp, gNl, gCn, Rz.fin, truth, dc_eq_int, dc_ne_int, dc_eq_fr, dc_eq_str, dc_ne_str, dc_lt, dc_le, dc_gt, dc_ge, dc_is, dc_isn, dBin, List.getElem?_cons_zero, List.getElem?_cons_succ, List.set_cons_zero, List.set_cons_succ, List.map_cons, List.map_nil, List.length_cons, List.length_nil, List.replicate, List.cons_append, List.nil_append, List.append_nil, Nat.reduceAdd, Nat.reduceSub, Nat.sub_self, Nat.reduceLeDiff, if_true, if_false, Bool.false_eq_true, reduceIte, Int.cast_ofNat_Int, eq_self, decide_true, decide_false, Bool.not_true, Bool.not_false, Bool.and_self, Bool.and_true, Bool.true_and, Bool.and_false, Bool.false_and, Bool.or_false, Bool.false_or, Bool.or_true, Bool.true_or, isi1, isi2, isi3, isi4, isi5, isi6, ok_int, deq_int, view_int, view_fr, view_str, ok_fr, eq_fr, view_tup, view_lst, ty_fr, tyN, List.any_cons, List.any_nil, atI_0, atI_1, atI_2, atI_3, atI_n, most, runB_rt, runB_nx, fin_same, m, q, sm]
def nearR (vs : List Nat) : List Rat := vs.map fun v : Nat => ((8 * (v : Int) - ((vs.map fun v => v * v).sum : Nat) : Int) : Rat)
theorem gn_near {j : Nat} {H : AH} {e0 e1 e2 e3 e4 e5 e6 e7 e8 e10 e11 e12 e13 e14 e15 : Option D} {vs : List Nat} (hv : ∀ v ∈ vs, v < 5) (hl : vs.length ≤ 50) :
    dGn (cF tb N j) g__law_pays_5 [e0, e1, e2, e3, e4, e5, e6, e7, e8, some (.lst (intsD vs)), e10, e11, e12, e13, e14, e15] H = some ((nearR vs).map fr, H) := by
  refine gn_of (ds := intsD vs) (ck := none) (h1 := H) ?_ ?_
  · rw [gs__law_pays_5]
    simp only [dI, dP, aSeq, aVar, seqOf, lstOf, List.getElem?_cons_zero, List.getElem?_cons_succ]
  · unfold nearR
    change lcL none _ (vs.map fun v : Nat => D.int (v : Nat)) [] H = _
    rw [List.map_map]
    refine lc_mapR (fun v : Nat => D.int (v : Nat)) _ (fun v hv2 => ?_) (by unfold most; omega)
    have := hv v hv2
    have sm : dBI H .sum [.lst (intsD (vs.map fun v => v * v))] = some (.val (.int ((vs.map fun v => v * v).sum : Nat))) := by
      unfold dBI dB1 lstOf
      simp only [dints_map, sum_int]
    rw [turn_near (mulOk_of (a := 10) (b := 10) (by decide) (by omega) (by decide)) (gn_sq hv hl) sm, Function.comp_apply, fr_int]
theorem near_Q {vs : List Nat} {d : Nat} (hd : d ≠ 0) (hv : ∀ v ∈ vs, v < 5) (hl : vs.length ≤ 50) : ∀ q ∈ nearR vs, Q d M0 q := fun q hq => by
  obtain ⟨v, hv2, rfl⟩ := List.mem_map.mp hq
  have a := hv v hv2
  have b := sq_le hv
  exact Q.int hd (by unfold M0; omega)
end Row
namespace Row
open PySem PySem.Spec PyProof.Rows L2 Ev
variable {N K : Nat} {h : AH}
section
variable {j : Nat} {x y p d z r : D} {l1 l2 : List D} {e2 e3 e4 e7 e8 e9 e10 e11 e12 e13 e14 e15 : Option D} {H0 H1 H2 H3 : AH}
theorem step_pays2F (c : cF tb N j "_law_row" [x, y] H0 = some (r, H1)) (m : dMeth H1 .append p [r] = some (z, H2)) :
    bodyF (cF tb N j) N (.name 3) b__law_pays_2 d [some x, some y, e2, e3, e4, some p, some (.bl false), e7, e8, e9, e10, e11, e12, e13, e14, e15] H0
      = some (.nx [some x, some y, e2, some d, e4, some p, some (.bl false), some r, e8, e9, e10, e11, e12, e13, e14, e15] H2) := by
  simp only [bodyF, b__law_pays_2, dSs, dS_expr, dS_ret, dS_retN, dS_asg, dS_par, dS_aug, dS_ite, dS_for, dS_wh, dS_pass, dS_brk, dS_cnt, dP, dPs, dI, dG, dGs, dB, cSeq, cRet, cExpr, cAsg, cPar, setAll, cAug, augI, cIte, aVar, aC, tst, aTup, aLst, aBin, aNeg, aCmp, aChain, aNot, aIte, aIx, aO, aSl, dCut, aCall, aCallk, aBi, aMeth, aFin, aEl, aOT, aSeq, aRange1_eq, aEnum, aZip, wipeE, List.foldl_cons, List.foldl_nil, aCons, aStar, aAndV, aOrV, aAnd, aOr, aNotT, gNm, gTp, gNl, gCn, Rz.fin, truth, dc_eq_int, dc_ne_int, dc_eq_fr, dc_eq_str, dc_ne_str, dc_lt, dc_le, dc_gt, dc_ge, dc_is, dc_isn, dBin, List.getElem?_cons_zero, List.getElem?_cons_succ, List.set_cons_zero, List.set_cons_succ, List.map_cons, List.map_nil, List.length_cons, List.length_nil, List.replicate, List.cons_append, List.nil_append, List.append_nil, Nat.reduceAdd, Nat.reduceSub, Nat.sub_self, Nat.reduceLeDiff, if_true, if_false, Bool.false_eq_true, reduceIte, Int.cast_ofNat_Int, eq_self, decide_true, decide_false, Bool.not_true, Bool.not_false, Bool.and_self, Bool.and_true, Bool.true_and, Bool.and_false, Bool.false_and, Bool.or_false, Bool.false_or, Bool.or_true, Bool.true_or, isi1, isi2, isi3, isi4, isi5, isi6, ok_int, deq_int, view_int, view_fr, view_str, ok_fr, eq_fr, view_tup, view_lst, ty_fr, tyN, List.any_cons, List.any_nil, atI_0, atI_1, atI_2, atI_3, atI_n, most, runB_rt, runB_nx, fin_same, c, m]
theorem step_pays2T (c : cF tb N j "_law_row" [x, y] H0 = some (r, H1)) (q6 : dGn (cF tb N j) g__law_pays_6 [some x, some y, e2, some d, e4, some p, some (.bl true), some r, e8, e9, e10, e11, e12, e13, e14, e15] H1 = some (l1, H2))
    (q5 : dGn (cF tb N j) g__law_pays_5 [some x, some y, e2, some d, e4, some p, some (.bl true), some r, e8, some (.lst l1), e10, e11, e12, e13, e14, e15] H2 = some (l2, H2)) (m : dMeth H2 .append p [.lst l2] = some (z, H3)) :
    bodyF (cF tb N j) N (.name 3) b__law_pays_2 d [some x, some y, e2, e3, e4, some p, some (.bl true), e7, e8, e9, e10, e11, e12, e13, e14, e15] H0
      = some (.nx [some x, some y, e2, some d, e4, some p, some (.bl true), some (.lst l2), e8, some (.lst l1), e10, e11, e12, e13, e14, e15] H3) := by
  simp only [bodyF, b__law_pays_2, dSs, dS_expr, dS_ret, dS_retN, dS_asg, dS_par, dS_aug, dS_ite, dS_for, dS_wh, dS_pass, dS_brk, dS_cnt, dP, dPs, dI, dG, dGs, dB, cSeq, cRet, cExpr, cAsg, cPar, setAll, cAug, augI, cIte, aVar, aC, tst, aTup, aLst, aBin, aNeg, aCmp, aChain, aNot, aIte, aIx, aO, aSl, dCut, aCall, aCallk, aBi, aMeth, aFin, aEl, aOT, aSeq, aRange1_eq, aEnum, aZip, wipeE, List.foldl_cons, List.foldl_nil, aCons, aStar, aAndV, aOrV, aAnd, aOr, aNotT, gNm, gTp, gNl, gCn, Rz.fin, truth, dc_eq_int, dc_ne_int, dc_eq_fr, dc_eq_str, dc_ne_str, dc_lt, dc_le, dc_gt, dc_ge, dc_is, dc_isn, dBin, List.getElem?_cons_zero, List.getElem?_cons_succ, List.set_cons_zero, List.set_cons_succ, List.map_cons, List.map_nil, List.length_cons, List.length_nil, List.replicate, List.cons_append, List.nil_append, List.append_nil, Nat.reduceAdd, Nat.reduceSub, Nat.sub_self, Nat.reduceLeDiff, if_true, if_false, Bool.false_eq_true, reduceIte, Int.cast_ofNat_Int, eq_self, decide_true, decide_false, Bool.not_true, Bool.not_false, Bool.and_self, Bool.and_true, Bool.true_and, Bool.and_false, Bool.false_and, Bool.or_false, Bool.false_or, Bool.or_true, Bool.true_or, isi1, isi2, isi3, isi4, isi5, isi6, ok_int, deq_int, view_int, view_fr, view_str, ok_fr, eq_fr, view_tup, view_lst, ty_fr, tyN, List.any_cons, List.any_nil, atI_0, atI_1, atI_2, atI_3, atI_n, most, runB_rt, runB_nx, fin_same, c, q6, q5, m]
end
end Row
namespace Row
open PySem PySem.Spec PyProof.Rows L2 Ev
variable {N K : Nat} {h : AH}
/-- rows as lists -/
def rowsD (P : List (List Rat)) : List D := P.map fun r => .lst (r.map fr)
/-- many rows of n numbers of one denominator -/
structure QP (n m d M : Nat) (P : List (List Rat)) : Prop where
  len : P.length = m
  row : ∀ r ∈ P, r.length = n ∧ ∀ x ∈ r, Q d M x
theorem loop_pays2 {j i n0 n m : Nat} {w : Wl} {b : Bool} (hj : 3 ≤ j) (hN : 1000000 ≤ N) (hi : i < h.length) (ok : WOk n0 w) (hn0 : n0 ≤ 500000) (hn : n ≤ 50) (hm : m ≤ 50) :
    ∃ (P : List (List Rat)) (w' : Wl) (z3 z7 z9 : Option D), forL none (bodyF (cF tb N j) N (.name 3) b__law_pays_2) ((List.range m).map fun i => .int (i : Nat)) [some (.ref i), some (.int n), some (.int m), none, none, some (.ref h.length), some (.bl b), none, none, none, none, none, none, none, none, none] (h.set i (wD w) ++ [.lst []])
      = some (.nx [some (.ref i), some (.int n), some (.int m), z3, none, some (.ref h.length), some (.bl b), z7, none, z9, none, none, none, none, none, none] (h.set i (wD w') ++ [.lst (rowsD P)])) ∧ QP n m L60 M0 P ∧ WOk (n0 + 4 * n * m) w' := by
  have lp := forL_inv (f := bodyF (cF tb N j) N (.name 3) b__law_pays_2)
    (fun pre e H => ∃ (P : List (List Rat)) (w' : Wl) (z3 z7 z9 : Option D), QP n pre.length L60 M0 P ∧ e = [some (.ref i), some (.int n), some (.int m), z3, none, some (.ref h.length), some (.bl b), z7, none, z9, none, none, none, none, none, none] ∧ H = h.set i (wD w') ++ [.lst (rowsD P)] ∧ WOk (n0 + 4 * n * pre.length) w')
    (ds := (List.range m).map fun i => .int (i : Nat)) [] (e := [some (.ref i), some (.int n), some (.int m), none, none, some (.ref h.length), some (.bl b), none, none, none, none, none, none, none, none, none]) (h := h.set i (wD w) ++ [.lst []])
    ⟨[], w, none, none, none, ⟨rfl, fun q hq => by cases hq⟩, rfl, rfl, ok⟩ fun a d pb e H eq ih => by
      obtain ⟨P, w1, z3, z7, z9, qp, rfl, rfl, k1⟩ := ih
      have len : a.length + (pb.length + 1) = m := by
        have := congrArg List.length eq
        simpa using this
      have hi2 : i < (h ++ [AO.lst (rowsD P)]).length := by rw [List.length_append]; omega
      have a50 : 4 * n * a.length ≤ 4 * 50 * 50 := Nat.mul_le_mul (by omega) (by omega)
      have grow : 4 * n * (a.length + 1) = 4 * n * a.length + 4 * n := by rw [Nat.mul_add, Nat.mul_one]
      obtain ⟨qs, w2, c1, c2, c3, k2⟩ := D_row (N := N) (K := j) (h := h ++ [AO.lst (rowsD P)]) (n := n) hj hN hi2 k1 (by omega) hn
      rw [← set_app hi, ← set_app hi] at c1
      have pl : (rowsD P).length < 1000000 := by unfold rowsD; rw [List.length_map, qp.len]; omega
      have done : ∀ r : List Rat, r.length = n → (∀ x ∈ r, Q L60 M0 x) → QP n (a ++ [d]).length L60 M0 (P ++ [r]) := fun r r1 r2 => by
        refine ⟨by rw [List.length_append, List.length_append, qp.len] <;> rfl, fun s hs => ?_⟩
        rcases List.mem_append.mp hs with t | t
        · exact qp.row s t
        · rw [List.mem_singleton] at t; subst t; exact ⟨r1, r2⟩
      have more : ∀ r : List Rat, rowsD P ++ [.lst (r.map fr)] = rowsD (P ++ [r]) := fun r => by
        unfold rowsD
        rw [List.map_append] <;> rfl
      cases b with
      | false =>
        have m1 := meth_app (h := h) (w := w2) (xs := rowsD P) (d := .lst (qs.map fr)) hi pl
        refine ⟨_, _, .inl (step_pays2F c1 m1), P ++ [qs], w2, _, _, _, done qs c2 c3, rfl, by rw [more], k2.mono ?_⟩
        rw [List.length_append]
        simp only [List.length_cons, List.length_nil, Nat.zero_add]
        omega
      | true =>
        obtain ⟨vs, w3, q6, v1, v2, k3⟩ := D_spot (N := N) (h := h ++ [AO.lst (rowsD P)]) (n := n) (d2 := some (.int m)) (d3 := some d) (d4 := none) (d5 := some (.ref h.length)) (d6 := some (.bl true)) (d7 := some (.lst (qs.map fr))) (d8 := none) (d9 := z9) (d10 := none) (d11 := none) (d12 := none) (d13 := none) (d14 := none) (d15 := none) (by omega : 1 ≤ j) hi2 k2 (by omega) hn
        rw [← set_app hi, ← set_app hi] at q6
        have q5 := gn_near (N := N) (j := j) (H := h.set i (wD w3) ++ [.lst (rowsD P)]) (e0 := some (.ref i)) (e1 := some (.int n)) (e2 := some (.int m)) (e3 := some d) (e4 := none) (e5 := some (.ref h.length)) (e6 := some (.bl true)) (e7 := some (.lst (qs.map fr))) (e8 := none) (e10 := none) (e11 := none) (e12 := none) (e13 := none) (e14 := none) (e15 := none) v2 (by omega)
        have m1 := meth_app (h := h) (w := w3) (xs := rowsD P) (d := .lst ((nearR vs).map fr)) hi pl
        have nl : (nearR vs).length = n := by unfold nearR; rw [List.length_map]; exact v1
        refine ⟨_, _, .inl (step_pays2T c1 q6 q5 m1), P ++ [nearR vs], w3, _, _, _, done _ nl (near_Q (by decide) v2 (by omega)), rfl, by rw [more], k3.mono ?_⟩
        rw [List.length_append]
        simp only [List.length_cons, List.length_nil, Nat.zero_add]
        omega
  obtain ⟨e', H', lp, P, w', z3, z7, z9, qp, rfl, rfl, k⟩ := lp
  simp only [List.nil_append, List.length_map, List.length_range] at qp k
  exact ⟨P, w', z3, z7, z9, lp, qp, k⟩
end Row
namespace Row
open PySem PySem.Spec PyProof.Rows L2 Ev
variable {N K : Nat} {h : AH}
def lessD : Bool → D | true => .tup [.int 0, .int 1] | false => .tup [.int (-1), .int 4]
section
variable {j n : Nat} {x y mm r d : D} {way o t a : Int} {rs l : List D} {b1 : Bool} {e3 e4 e6 e7 e8 e9 e10 e11 e12 e13 e14 e15 : Option D} {H0 H1 H2 H3 H4 H5 : AH}
theorem step1A (c1 : cF tb N j "_law_draw" [x, .int 4] H0 = some (.int way, H1)) (c2 : cF tb N j "_law_draw" [x, mm] H1 = some (.int o, H2)) (c3 : cF tb N j "_law_draw" [x, mm] H2 = some (.int t, H3)) (c4 : cF tb N j "_law_draw" [x, mm] H3 = some (.int a, H4))
    (k1 : decide (way = 1) = b1) (k0 : decide (way = 0) = true) (ix : dIx H4 (.ref n) (.int o) = some r) (li : dBI H4 .list [r] = some (.new rs)) (pt : putD H4 n a (.lst rs) = some H5) :
    bodyF (cF tb N j) N (.name 4) b__law_pays_1 d [some x, some y, some mm, e3, e4, some (.ref n), e6, e7, e8, e9, e10, e11, e12, e13, e14, e15] H0
      = some (.nx [some x, some y, some mm, some (.int a), some d, some (.ref n), e6, e7, some (lessD b1), e9, some (.int way), some (.int o), some (.int t), e13, e14, e15] H5) := by
  cases b1 <;> simp only [bodyF, b__law_pays_1, dSs, dS_expr, dS_ret, dS_retN, dS_asg, dS_par, dS_aug, dS_ite, dS_for, dS_wh, dS_pass, dS_brk, dS_cnt, dP, dPs, dI, dG, dGs, dB, cSeq, cRet, cExpr, cAsg, cPar, setAll, cAug, augI, cIte, aVar, aC, tst, aTup, aLst, aBin, aNeg, aCmp, aChain, aNot, aIte, aIx, aO, aSl, dCut, aCall, aCallk, aBi, aMeth, aFin, aEl, aOT, aSeq, aRange1_eq, aEnum, aZip, wipeE, List.foldl_cons, List.foldl_nil, aCons, aStar, aAndV, aOrV, aAnd, aOr, aNotT, gNm, gTp, gNl, gCn, Rz.fin, truth, dc_eq_int, dc_ne_int, dc_eq_fr, dc_eq_str, dc_ne_str, dc_lt, dc_le, dc_gt, dc_ge, dc_is, dc_isn, dBin, List.getElem?_cons_zero, List.getElem?_cons_succ, List.set_cons_zero, List.set_cons_succ, List.map_cons, List.map_nil, List.length_cons, List.length_nil, List.replicate, List.cons_append, List.nil_append, List.append_nil, Nat.reduceAdd, Nat.reduceSub, Nat.sub_self, Nat.reduceLeDiff, if_true, if_false, Bool.false_eq_true, reduceIte, Int.cast_ofNat_Int, eq_self, decide_true, decide_false, Bool.not_true, Bool.not_false, Bool.and_self, Bool.and_true, Bool.true_and, Bool.and_false, Bool.false_and, Bool.or_false, Bool.false_or, Bool.or_true, Bool.true_or, isi1, isi2, isi3, isi4, isi5, isi6, ok_int, deq_int, view_int, view_fr, view_str, ok_fr, eq_fr, view_tup, view_lst, ty_fr, tyN, List.any_cons, List.any_nil, atI_0, atI_1, atI_2, atI_3, atI_n, most, runB_rt, runB_nx, fin_same, gSb_eq, c1, c2, c3, c4, k1, k0, ix, li, pt, lessD]
theorem step1B (c1 : cF tb N j "_law_draw" [x, .int 4] H0 = some (.int way, H1)) (c2 : cF tb N j "_law_draw" [x, mm] H1 = some (.int o, H2)) (c3 : cF tb N j "_law_draw" [x, mm] H2 = some (.int t, H3)) (c4 : cF tb N j "_law_draw" [x, mm] H3 = some (.int a, H4))
    (k1 : decide (way = 1) = b1) (k0 : decide (way = 0) = false) (kl : decide (way < 3) = true) (nn : dCmp H4 .nin (.int a) (.tup [.int o, .int t]) = some true)
    (q : dGn (cF tb N j) g__law_pays_2 [some x, some y, some mm, some (.int a), some d, some (.ref n), e6, e7, some (lessD b1), e9, some (.int way), some (.int o), some (.int t), e13, e14, e15] H4 = some (l, H4)) (pt : putD H4 n a (.lst l) = some H5) :
    bodyF (cF tb N j) N (.name 4) b__law_pays_1 d [some x, some y, some mm, e3, e4, some (.ref n), e6, e7, e8, e9, e10, e11, e12, e13, e14, e15] H0
      = some (.nx [some x, some y, some mm, some (.int a), some d, some (.ref n), e6, e7, some (lessD b1), e9, some (.int way), some (.int o), some (.int t), e13, e14, e15] H5) := by
  cases b1 <;> simp only [lessD] at q <;> simp only [bodyF, b__law_pays_1, dSs, dS_expr, dS_ret, dS_retN, dS_asg, dS_par, dS_aug, dS_ite, dS_for, dS_wh, dS_pass, dS_brk, dS_cnt, dP, dPs, dI, dG, dGs, dB, cSeq, cRet, cExpr, cAsg, cPar, setAll, cAug, augI, cIte, aVar, aC, tst, aTup, aLst, aBin, aNeg, aCmp, aChain, aNot, aIte, aIx, aO, aSl, dCut, aCall, aCallk, aBi, aMeth, aFin, aEl, aOT, aSeq, aRange1_eq, aEnum, aZip, wipeE, List.foldl_cons, List.foldl_nil, aCons, aStar, aAndV, aOrV, aAnd, aOr, aNotT, gNm, gTp, gNl, gCn, Rz.fin, truth, dc_eq_int, dc_ne_int, dc_eq_fr, dc_eq_str, dc_ne_str, dc_lt, dc_le, dc_gt, dc_ge, dc_is, dc_isn, dBin, List.getElem?_cons_zero, List.getElem?_cons_succ, List.set_cons_zero, List.set_cons_succ, List.map_cons, List.map_nil, List.length_cons, List.length_nil, List.replicate, List.cons_append, List.nil_append, List.append_nil, Nat.reduceAdd, Nat.reduceSub, Nat.sub_self, Nat.reduceLeDiff, if_true, if_false, Bool.false_eq_true, reduceIte, Int.cast_ofNat_Int, eq_self, decide_true, decide_false, Bool.not_true, Bool.not_false, Bool.and_self, Bool.and_true, Bool.true_and, Bool.and_false, Bool.false_and, Bool.or_false, Bool.false_or, Bool.or_true, Bool.true_or, isi1, isi2, isi3, isi4, isi5, isi6, ok_int, deq_int, view_int, view_fr, view_str, ok_fr, eq_fr, view_tup, view_lst, ty_fr, tyN, List.any_cons, List.any_nil, atI_0, atI_1, atI_2, atI_3, atI_n, most, runB_rt, runB_nx, fin_same, gSb_eq, c1, c2, c3, c4, k1, k0, kl, nn, q, pt, lessD]
theorem step1N (c1 : cF tb N j "_law_draw" [x, .int 4] H0 = some (.int way, H1)) (c2 : cF tb N j "_law_draw" [x, mm] H1 = some (.int o, H2)) (c3 : cF tb N j "_law_draw" [x, mm] H2 = some (.int t, H3)) (c4 : cF tb N j "_law_draw" [x, mm] H3 = some (.int a, H4))
    (k1 : decide (way = 1) = b1) (k0 : decide (way = 0) = false) (kl : decide (way < 3) = true) (nn : dCmp H4 .nin (.int a) (.tup [.int o, .int t]) = some false) (k3 : decide (way = 3) = false) :
    bodyF (cF tb N j) N (.name 4) b__law_pays_1 d [some x, some y, some mm, e3, e4, some (.ref n), e6, e7, e8, e9, e10, e11, e12, e13, e14, e15] H0
      = some (.nx [some x, some y, some mm, some (.int a), some d, some (.ref n), e6, e7, some (lessD b1), e9, some (.int way), some (.int o), some (.int t), e13, e14, e15] H4) := by
  cases b1 <;> simp only [bodyF, b__law_pays_1, dSs, dS_expr, dS_ret, dS_retN, dS_asg, dS_par, dS_aug, dS_ite, dS_for, dS_wh, dS_pass, dS_brk, dS_cnt, dP, dPs, dI, dG, dGs, dB, cSeq, cRet, cExpr, cAsg, cPar, setAll, cAug, augI, cIte, aVar, aC, tst, aTup, aLst, aBin, aNeg, aCmp, aChain, aNot, aIte, aIx, aO, aSl, dCut, aCall, aCallk, aBi, aMeth, aFin, aEl, aOT, aSeq, aRange1_eq, aEnum, aZip, wipeE, List.foldl_cons, List.foldl_nil, aCons, aStar, aAndV, aOrV, aAnd, aOr, aNotT, gNm, gTp, gNl, gCn, Rz.fin, truth, dc_eq_int, dc_ne_int, dc_eq_fr, dc_eq_str, dc_ne_str, dc_lt, dc_le, dc_gt, dc_ge, dc_is, dc_isn, dBin, List.getElem?_cons_zero, List.getElem?_cons_succ, List.set_cons_zero, List.set_cons_succ, List.map_cons, List.map_nil, List.length_cons, List.length_nil, List.replicate, List.cons_append, List.nil_append, List.append_nil, Nat.reduceAdd, Nat.reduceSub, Nat.sub_self, Nat.reduceLeDiff, if_true, if_false, Bool.false_eq_true, reduceIte, Int.cast_ofNat_Int, eq_self, decide_true, decide_false, Bool.not_true, Bool.not_false, Bool.and_self, Bool.and_true, Bool.true_and, Bool.and_false, Bool.false_and, Bool.or_false, Bool.false_or, Bool.or_true, Bool.true_or, isi1, isi2, isi3, isi4, isi5, isi6, ok_int, deq_int, view_int, view_fr, view_str, ok_fr, eq_fr, view_tup, view_lst, ty_fr, tyN, List.any_cons, List.any_nil, atI_0, atI_1, atI_2, atI_3, atI_n, most, runB_rt, runB_nx, fin_same, gSb_eq, c1, c2, c3, c4, k1, k0, kl, nn, k3, lessD]
theorem step1C (c1 : cF tb N j "_law_draw" [x, .int 4] H0 = some (.int way, H1)) (c2 : cF tb N j "_law_draw" [x, mm] H1 = some (.int o, H2)) (c3 : cF tb N j "_law_draw" [x, mm] H2 = some (.int t, H3)) (c4 : cF tb N j "_law_draw" [x, mm] H3 = some (.int a, H4))
    (k1 : decide (way = 1) = b1) (k0 : decide (way = 0) = false) (kl : decide (way < 3) = false) (k3 : decide (way = 3) = true)
    (q : dGn (cF tb N j) g__law_pays_3 [some x, some y, some mm, some (.int a), some d, some (.ref n), e6, e7, some (lessD b1), e9, some (.int way), some (.int o), some (.int t), e13, e14, e15] H4 = some (l, H5)) {H6 : AH} (pt : putD H5 n a (.lst l) = some H6) :
    bodyF (cF tb N j) N (.name 4) b__law_pays_1 d [some x, some y, some mm, e3, e4, some (.ref n), e6, e7, e8, e9, e10, e11, e12, e13, e14, e15] H0
      = some (.nx [some x, some y, some mm, some (.int a), some d, some (.ref n), e6, e7, some (lessD b1), e9, some (.int way), some (.int o), some (.int t), e13, e14, e15] H6) := by
  cases b1 <;> simp only [lessD] at q <;> simp only [bodyF, b__law_pays_1, dSs, dS_expr, dS_ret, dS_retN, dS_asg, dS_par, dS_aug, dS_ite, dS_for, dS_wh, dS_pass, dS_brk, dS_cnt, dP, dPs, dI, dG, dGs, dB, cSeq, cRet, cExpr, cAsg, cPar, setAll, cAug, augI, cIte, aVar, aC, tst, aTup, aLst, aBin, aNeg, aCmp, aChain, aNot, aIte, aIx, aO, aSl, dCut, aCall, aCallk, aBi, aMeth, aFin, aEl, aOT, aSeq, aRange1_eq, aEnum, aZip, wipeE, List.foldl_cons, List.foldl_nil, aCons, aStar, aAndV, aOrV, aAnd, aOr, aNotT, gNm, gTp, gNl, gCn, Rz.fin, truth, dc_eq_int, dc_ne_int, dc_eq_fr, dc_eq_str, dc_ne_str, dc_lt, dc_le, dc_gt, dc_ge, dc_is, dc_isn, dBin, List.getElem?_cons_zero, List.getElem?_cons_succ, List.set_cons_zero, List.set_cons_succ, List.map_cons, List.map_nil, List.length_cons, List.length_nil, List.replicate, List.cons_append, List.nil_append, List.append_nil, Nat.reduceAdd, Nat.reduceSub, Nat.sub_self, Nat.reduceLeDiff, if_true, if_false, Bool.false_eq_true, reduceIte, Int.cast_ofNat_Int, eq_self, decide_true, decide_false, Bool.not_true, Bool.not_false, Bool.and_self, Bool.and_true, Bool.true_and, Bool.and_false, Bool.false_and, Bool.or_false, Bool.false_or, Bool.or_true, Bool.true_or, isi1, isi2, isi3, isi4, isi5, isi6, ok_int, deq_int, view_int, view_fr, view_str, ok_fr, eq_fr, view_tup, view_lst, ty_fr, tyN, List.any_cons, List.any_nil, atI_0, atI_1, atI_2, atI_3, atI_n, most, runB_rt, runB_nx, fin_same, gSb_eq, c1, c2, c3, c4, k1, k0, kl, k3, q, pt, lessD]
end
/-! the stored list -/
theorem put_own {i : Nat} {w : Wl} {xs : List D} {a : Nat} {d : D} (ha : a < xs.length) : putD (h.set i (wD w) ++ [AO.lst xs]) h.length (a : Int) d = some (h.set i (wD w) ++ [AO.lst (xs.set a d)]) := by
  have l1 : (h.set i (wD w)).length = h.length := List.length_set
  unfold putD
  rw [List.getElem?_append_right (by rw [l1]; exact Nat.le_refl _), l1, Nat.sub_self]
  simp only [List.getElem?_cons_zero]
  have e : ixN xs.length (a : Int) = some a := by
    unfold ixN
    rw [if_pos (by omega), if_pos (by omega), Int.toNat_natCast]
  rw [e]
  simp only
  rw [List.set_append_right _ _ (by rw [l1]; exact Nat.le_refl _), l1, Nat.sub_self] <;> rfl
theorem own_at {i : Nat} {w : Wl} {xs : List D} : (h.set i (wD w) ++ [AO.lst xs])[h.length]? = some (.lst xs) := by
  have l1 : (h.set i (wD w)).length = h.length := List.length_set
  rw [List.getElem?_append_right (by rw [l1]; exact Nat.le_refl _), l1, Nat.sub_self] <;> rfl
theorem ix_own {i : Nat} {w : Wl} {xs : List D} {a : Nat} {d : D} (ha : xs[a]? = some d) : dIx (h.set i (wD w) ++ [AO.lst xs]) (.ref h.length) (.int (a : Int)) = some d := by
  unfold dIx seqOf lstOf
  simp only [own_at, atI_n, ha]
theorem nin2 {a o t : Int} : ∃ b, dCmp h .nin (.int a) (.tup [.int o, .int t]) = some b := ⟨_, rfl⟩
end Row
namespace Row
open PySem PySem.Spec PyProof.Rows L2 Ev
variable {N K : Nat} {h : AH}
/-! ### a row between two others -/
theorem fr_half : fr (mkRat 1 2) = .tup [.int 1, .int 2] := rfl
theorem fr_less (b : Bool) : lessD b = fr (if b then 0 else mkRat (-1) 4) := by cases b <;> rfl
theorem turn_mid {j : Nat} {H : AH} {e0 e1 e2 e3 e4 e5 e6 e7 e9 e10 e11 e12 e13 e14 e15 : Option D} {x y r1 r2 r3 l : D} (c1 : cF tb N j "_law_plus" [x, y] H = some (r1, H)) (c2 : cF tb N j "_law_times" [r1, .tup [.int 1, .int 2]] H = some (r2, H)) (c3 : cF tb N j "_law_plus" [r2, l] H = some (r3, H)) :
    gnF (cF tb N j) g__law_pays_2 [e0, e1, e2, e3, e4, e5, e6, e7, some l, e9, e10, e11, e12, e13, e14, e15] (.tup [x, y]) H = some ([r3], H) := by
  simp only [gnF, g__law_pays_2, dSs, dS_expr, dS_ret, dS_retN, dS_asg, dS_par, dS_aug, dS_ite, dS_for, dS_wh, dS_pass, dS_brk, dS_cnt, dP, dPs, dI, dG, dGs, dB, cSeq, cRet, cExpr, cAsg, cPar, setAll, cAug, augI, cIte, aVar, aC, tst, aTup, aLst, aBin, aNeg, aCmp, aChain, aNot, aIte, aIx, aO, aSl, dCut, aCall, aCallk, aBi, aMeth, aFin, aEl, aOT, aSeq, aRange1_eq, aEnum, aZip, wipeE, List.foldl_cons, List.foldl_nil, aCons, aStar, aAndV, aOrV, aAnd, aOr, aNotT, gNm, gTp, gNl, gCn, Rz.fin, truth, dc_eq_int, dc_ne_int, dc_eq_fr, dc_eq_str, dc_ne_str, dc_lt, dc_le, dc_gt, dc_ge, dc_is, dc_isn, dBin, List.getElem?_cons_zero, List.getElem?_cons_succ, List.set_cons_zero, List.set_cons_succ, List.map_cons, List.map_nil, List.length_cons, List.length_nil, List.replicate, List.cons_append, List.nil_append, List.append_nil, Nat.reduceAdd, Nat.reduceSub, Nat.sub_self, Nat.reduceLeDiff, if_true, if_false, Bool.false_eq_true, reduceIte, Int.cast_ofNat_Int, eq_self, decide_true, decide_false, Bool.not_true, Bool.not_false, Bool.and_self, Bool.and_true, Bool.true_and, Bool.and_false, Bool.false_and, Bool.or_false, Bool.false_or, Bool.or_true, Bool.true_or, isi1, isi2, isi3, isi4, isi5, isi6, ok_int, deq_int, view_int, view_fr, view_str, ok_fr, eq_fr, view_tup, view_lst, ty_fr, tyN, List.any_cons, List.any_nil, atI_0, atI_1, atI_2, atI_3, atI_n, most, runB_rt, runB_nx, fin_same, c1, c2, c3]
def midR (b : Bool) (X Y : List Rat) : List Rat := (X.zip Y).map fun z => (z.1 + z.2) * mkRat 1 2 + (if b then 0 else mkRat (-1) 4)
theorem gn_mid {j : Nat} {H : AH} {o t : Int} {b : Bool} {X Y : List Rat} {p : D} {e0 e1 e2 e3 e4 e6 e7 e9 e10 e13 e14 e15 : Option D} (hj : 2 ≤ j) (hN : 1000000 ≤ N) (i1 : dIx H p (.int o) = some (.lst (X.map fr))) (i2 : dIx H p (.int t) = some (.lst (Y.map fr)))
    (hX : ∀ x ∈ X, Sz 1000 x) (hY : ∀ x ∈ Y, Sz 1000 x) (hl : X.length ≤ 50) :
    dGn (cF tb N j) g__law_pays_2 [e0, e1, e2, e3, e4, some p, e6, e7, some (lessD b), e9, e10, some (.int o), some (.int t), e13, e14, e15] H = some ((midR b X Y).map fr, H) := by
  refine gn_of (ds := zipD (X.map fr) (Y.map fr)) (ck := none) (h1 := H) ?_ ?_
  · rw [gs__law_pays_2]
    simp only [dI, dP, aZip, aIx, aVar, List.getElem?_cons_zero, List.getElem?_cons_succ, i1, i2, zsrc]
  · rw [zipD_map]
    unfold midR
    rw [List.map_map]
    refine lc_mapR _ _ (fun z hz => ?_) (by rw [List.length_zip]; unfold most; omega)
    have h1 := hX z.1 (List.of_mem_zip hz).1
    have h2 := hY z.2 (List.of_mem_zip hz).2
    have c1 := l_plus (N := N) (h := H) (K := j) hj hN (h1.mono (by decide)) (h2.mono (by decide))
    have s1 := h1.add h2
    have sh : Sz 2 (mkRat 1 2) := ⟨by decide, by decide⟩
    have c2 := l_times (N := N) (h := H) (K := j) hj hN (s1.mono (by decide)) (sh.mono (by decide))
    have s2 := s1.mul sh
    have s3 : Sz 3 (if b then 0 else mkRat (-1) 4) := by cases b <;> exact ⟨by decide, by decide⟩
    have c3 := l_plus (N := N) (h := H) (K := j) hj hN (s2.mono (by decide)) (s3.mono (by decide))
    rw [fr_half] at c2
    rw [← fr_less] at c3
    rw [turn_mid c1 c2 c3, Function.comp_apply]
theorem mid_len {b : Bool} {X Y : List Rat} (e : X.length = Y.length) : (midR b X Y).length = X.length := by
  unfold midR
  rw [List.length_map, List.length_zip, e, Nat.min_self]
theorem mid_Q {b : Bool} {X Y : List Rat} {d M : Nat} (hX : ∀ x ∈ X, Q d M x) (hY : ∀ x ∈ Y, Q d M x) : ∀ q ∈ midR b X Y, Q (4 * d) (2 * M + 1) q := fun q hq => by
  obtain ⟨z, hz, rfl⟩ := List.mem_map.mp hq
  have h1 := hX z.1 (List.of_mem_zip hz).1
  have h2 := hY z.2 (List.of_mem_zip hz).2
  have sh : Q 2 1 (mkRat 1 2) := ⟨by decide, 1, rfl, by decide⟩
  have s2 := ((h1.add h2).mul sh).up (e := 2) (by decide)
  have s3 : Q 4 1 (if b then 0 else mkRat (-1) 4) := by
    cases b
    · exact ⟨by decide, -1, rfl, by decide⟩
    · exact ⟨by decide, 0, by rw [Rat.zero_mkRat] <;> rfl, by decide⟩
  have s4 := s3.up (e := d) h1.1
  have e1 : 2 * (d * 2) = 4 * d := by omega
  have e2 : d * 4 = 4 * d := by omega
  have e3 : (M + M) * 1 + 1 = 2 * M + 1 := by omega
  rw [e1] at s2
  rw [e2] at s4
  have := s2.add s4
  rw [e3] at this
  exact this
end Row
namespace Row
open PySem PySem.Spec PyProof.Rows L2 Ev
variable {N K : Nat} {h : AH}
/-! ### a row moved by draws -/
theorem turn_shift {j : Nat} {H H1 : AH} {e1 e2 e3 e4 e5 e6 e7 e8 e9 e10 e11 e12 e13 e14 e15 : Option D} {x y r : D} {v : Int} (c1 : cF tb N j "_law_draw" [x, .int 3] H = some (.int v, H1)) (c2 : cF tb N j "_law_plus" [y, .tup [.int (v - 1), .int 1]] H1 = some (r, H1)) :
    gnF (cF tb N j) g__law_pays_3 [some x, e1, e2, e3, e4, e5, e6, e7, e8, e9, e10, e11, e12, e13, e14, e15] y H = some ([r], H1) := by
  simp only [gnF, g__law_pays_3, dSs, dS_expr, dS_ret, dS_retN, dS_asg, dS_par, dS_aug, dS_ite, dS_for, dS_wh, dS_pass, dS_brk, dS_cnt, dP, dPs, dI, dG, dGs, dB, cSeq, cRet, cExpr, cAsg, cPar, setAll, cAug, augI, cIte, aVar, aC, tst, aTup, aLst, aBin, aNeg, aCmp, aChain, aNot, aIte, aIx, aO, aSl, dCut, aCall, aCallk, aBi, aMeth, aFin, aEl, aOT, aSeq, aRange1_eq, aEnum, aZip, wipeE, List.foldl_cons, List.foldl_nil, aCons, aStar, aAndV, aOrV, aAnd, aOr, aNotT, gNm, gTp, gNl, gCn, Rz.fin, truth, dc_eq_int, dc_ne_int, dc_eq_fr, dc_eq_str, dc_ne_str, dc_lt, dc_le, dc_gt, dc_ge, dc_is, dc_isn, List.getElem?_cons_zero, List.getElem?_cons_succ, List.set_cons_zero, List.set_cons_succ, List.map_cons, List.map_nil, List.length_cons, List.length_nil, List.replicate, List.cons_append, List.nil_append, List.append_nil, Nat.reduceAdd, Nat.reduceSub, Nat.sub_self, Nat.reduceLeDiff, if_true, if_false, Bool.false_eq_true, reduceIte, Int.cast_ofNat_Int, eq_self, decide_true, decide_false, Bool.not_true, Bool.not_false, Bool.and_self, Bool.and_true, Bool.true_and, Bool.and_false, Bool.false_and, Bool.or_false, Bool.false_or, Bool.or_true, Bool.true_or, isi1, isi2, isi3, isi4, isi5, isi6, ok_int, deq_int, view_int, view_fr, view_str, ok_fr, eq_fr, view_tup, view_lst, ty_fr, tyN, List.any_cons, List.any_nil, atI_0, atI_1, atI_2, atI_3, atI_n, most, runB_rt, runB_nx, fin_same, c1, c2, db_sub]
theorem gn_shift {j i n0 d M : Nat} {w : Wl} {o : Int} {X : List Rat} {p : D} {e1 e2 e3 e4 e6 e7 e8 e9 e10 e12 e13 e14 e15 : Option D} (hj : 2 ≤ j) (hN : 1000000 ≤ N) (hi : i < h.length) (ok : WOk n0 w) (hn0 : n0 ≤ 700000) (i1 : dIx (h.set i (wD w)) p (.int o) = some (.lst (X.map fr)))
    (hX : ∀ x ∈ X, Sz 1000 x) (hQ : ∀ x ∈ X, Q d M x) (hl : X.length ≤ 50) :
    ∃ (Y : List Rat) (w' : Wl), dGn (cF tb N j) g__law_pays_3 [some (.ref i), e1, e2, e3, e4, some p, e6, e7, e8, e9, e10, some (.int o), e12, e13, e14, e15] (h.set i (wD w)) = some (Y.map fr, h.set i (wD w')) ∧ Y.length = X.length ∧ (∀ x ∈ Y, Q d (M + 1) x) ∧ WOk (n0 + X.length) w' := by
  obtain ⟨acc, H, lc, Y, w', rfl, rfl, y1, y2, k⟩ := lcL_inv (f := gnF (cF tb N j) g__law_pays_3 [some (.ref i), e1, e2, e3, e4, some p, e6, e7, e8, e9, e10, some (.int o), e12, e13, e14, e15])
    (fun pre acc H => ∃ (Y : List Rat) (w' : Wl), acc = Y.map fr ∧ H = h.set i (wD w') ∧ Y.length = pre.length ∧ (∀ x ∈ Y, Q d (M + 1) x) ∧ WOk (n0 + pre.length) w')
    (ds := X.map fr) [] (acc := []) (h := h.set i (wD w)) ⟨[], w, rfl, rfl, rfl, (fun q hq => by cases hq), ok⟩ (by unfold most; simp only [List.length_nil, List.length_map]; omega) fun a y b acc H eq ih => by
      obtain ⟨Y, w1, rfl, rfl, e1, e2, k1⟩ := ih
      have len : a.length + (b.length + 1) = X.length := by
        have := congrArg List.length eq
        simpa using this
      have ym : y ∈ X.map fr := by rw [← List.nil_append (X.map fr), ← eq]; exact List.mem_append_right _ List.mem_cons_self
      obtain ⟨x, hx, rfl⟩ := List.mem_map.mp ym
      obtain ⟨v, w2, c, v0, v1, k2⟩ := D_draw (N := N) (K := j) (h := h) (few := 3) (by omega) hi k1 (by omega) (by decide)
      have sv : Sz 3 (((v - 1 : Int)) : Rat) := ⟨by rw [Rat.num_intCast]; omega, by rw [Rat.den_intCast]; decide⟩
      have c2 := l_plus (N := N) (h := h.set i (wD w2)) (K := j) hj hN ((hX x hx).mono (by decide)) (sv.mono (by decide))
      rw [fr_int] at c2
      refine ⟨_, _, turn_shift c c2, Y ++ [x + ((v - 1 : Int) : Rat)], w2, ?_, rfl, ?_, fun z hz => ?_, ?_⟩
      · rw [List.map_append] <;> rfl
      · rw [List.length_append, List.length_append, e1] <;> rfl
      · rcases List.mem_append.mp hz with t | t
        · exact e2 z t
        · rw [List.mem_singleton] at t; subst t
          exact (hQ x hx).add (Q.int (hQ x hx).1 (by omega))
      · rw [List.length_append]
        exact k2.mono (by simp only [List.length_cons, List.length_nil]; omega)
  simp only [List.nil_append, List.length_map] at y1 k
  refine ⟨Y, w', gn_of (ds := X.map fr) (ck := none) (h1 := h.set i (wD w)) ?_ lc, y1, y2, k⟩
  rw [gs__law_pays_3]
  simp only [dI, dP, aSeq, aIx, aVar, List.getElem?_cons_zero, List.getElem?_cons_succ, i1, seqOf, lstOf]
end Row
namespace Row
open PySem PySem.Spec PyProof.Rows L2 Ev
variable {N K : Nat} {h : AH}
/-! ### the turns that make rows alike -/
def MM : Nat → Nat | 0 => M0 | k + 1 => 2 * MM k + 1
def dd (k : Nat) : Nat := 4 ^ k * L60
theorem dd_succ (k : Nat) : dd (k + 1) = 4 * dd k := by unfold dd; rw [Nat.pow_succ, Nat.mul_comm (4 ^ k) 4, Nat.mul_assoc]
theorem mm_le (k : Nat) : MM k + 1 ≤ MM (k + 1) := by show MM k + 1 ≤ 2 * MM k + 1; omega
theorem mm_le1 (k : Nat) : MM k ≤ MM (k + 1) := by show MM k ≤ 2 * MM k + 1; omega
theorem QP.sz {n m k : Nat} {P : List (List Rat)} (q : QP n m (dd k) (MM k) P) (hk : k ≤ 2) : ∀ r ∈ P, ∀ x ∈ r, Sz 1000 x := fun r hr x hx => by
  have := (q.row r hr).2 x hx
  have kk : k = 0 ∨ k = 1 ∨ k = 2 := by omega
  rcases kk with rfl | rfl | rfl
  · exact this.sz (by decide +kernel) (by decide +kernel)
  · exact this.sz (by decide +kernel) (by decide +kernel)
  · exact this.sz (by decide +kernel) (by decide +kernel)
theorem QP.put {n m k a : Nat} {P : List (List Rat)} {R : List Rat} (q : QP n m (dd k) (MM k) P) (l : R.length = n) (hr : ∀ x ∈ R, Q (dd (k + 1)) (MM (k + 1)) x) : QP n m (dd (k + 1)) (MM (k + 1)) (P.set a R) := by
  refine ⟨by rw [List.length_set]; exact q.len, fun r h => ?_⟩
  rcases List.mem_or_eq_of_mem_set h with t | t
  · refine ⟨(q.row r t).1, fun x hx => ?_⟩
    have := ((q.row r t).2 x hx).up (e := 4) (by decide)
    rw [← dd_succ] at this
    exact this.mono (mm_le1 k)
  · subst t; exact ⟨l, hr⟩
theorem QP.keep {n m k : Nat} {P : List (List Rat)} (q : QP n m (dd k) (MM k) P) : QP n m (dd (k + 1)) (MM (k + 1)) P := by
  refine ⟨q.len, fun r t => ⟨(q.row r t).1, fun x hx => ?_⟩⟩
  have := ((q.row r t).2 x hx).up (e := 4) (by decide)
  rw [← dd_succ] at this
  exact this.mono (mm_le1 k)
theorem rows_at {P : List (List Rat)} {o : Nat} (ho : o < P.length) : (rowsD P)[o]? = some (.lst (P[o].map fr)) := by
  unfold rowsD
  rw [List.getElem?_map, List.getElem?_eq_getElem ho] <;> rfl
theorem rows_set {P : List (List Rat)} {a : Nat} {R : List Rat} : (rowsD P).set a (.lst (R.map fr)) = rowsD (P.set a R) := by
  unfold rowsD
  rw [List.map_set]
theorem turn_pays1 {j i n0 n m k : Nat} {w : Wl} {P : List (List Rat)} {d : D} {b : Bool} {e3 e4 e7 e8 e9 e10 e11 e12 : Option D} (hj : 3 ≤ j) (hN : 1000000 ≤ N) (hi : i < h.length) (ok : WOk n0 w) (hn0 : n0 ≤ 600000) (hn : n ≤ 50) (hm : 0 < m) (hk : k ≤ 1) (q : QP n m (dd k) (MM k) P) :
    ∃ (P' : List (List Rat)) (w' : Wl) (e3' e8' e10' e11' e12' : Option D), bodyF (cF tb N j) N (.name 4) b__law_pays_1 d [some (.ref i), some (.int n), some (.int m), e3, e4, some (.ref h.length), some (.bl b), e7, e8, e9, e10, e11, e12, none, none, none] (h.set i (wD w) ++ [.lst (rowsD P)])
      = some (.nx [some (.ref i), some (.int n), some (.int m), e3', some d, some (.ref h.length), some (.bl b), e7, e8', e9, e10', e11', e12', none, none, none] (h.set i (wD w') ++ [.lst (rowsD P')])) ∧ QP n m (dd (k + 1)) (MM (k + 1)) P' ∧ WOk (n0 + 4 + n) w' := by
  have hi2 : i < (h ++ [AO.lst (rowsD P)]).length := by rw [List.length_append]; omega
  obtain ⟨way, w1, c1, a0, a1, k1⟩ := D_draw (N := N) (K := j) (h := h ++ [AO.lst (rowsD P)]) (few := 4) (by omega) hi2 ok (by omega) (by decide)
  obtain ⟨o, w2, c2, o0, o1, k2⟩ := D_draw (N := N) (K := j) (h := h ++ [AO.lst (rowsD P)]) (few := (m : Int)) (by omega) hi2 k1 (by omega) (by omega)
  obtain ⟨t, w3, c3, t0, t1, k3⟩ := D_draw (N := N) (K := j) (h := h ++ [AO.lst (rowsD P)]) (few := (m : Int)) (by omega) hi2 k2 (by omega) (by omega)
  obtain ⟨a, w4, c4, s0, s1, k4⟩ := D_draw (N := N) (K := j) (h := h ++ [AO.lst (rowsD P)]) (few := (m : Int)) (by omega) hi2 k3 (by omega) (by omega)
  obtain ⟨o, rfl⟩ : ∃ u : Nat, o = u := ⟨o.toNat, by omega⟩
  obtain ⟨t, rfl⟩ : ∃ u : Nat, t = u := ⟨t.toNat, by omega⟩
  obtain ⟨a, rfl⟩ : ∃ u : Nat, a = u := ⟨a.toNat, by omega⟩
  rw [← set_app hi, ← set_app hi] at c1 c2 c3 c4
  have pl := q.len
  have lo : o < P.length := by omega
  have lt : t < P.length := by omega
  have la : a < (rowsD P).length := by unfold rowsD; rw [List.length_map]; omega
  have i1 := ix_own (h := h) (i := i) (w := w4) (rows_at lo)
  have i2 := ix_own (h := h) (i := i) (w := w4) (rows_at lt)
  have mo : P[o] ∈ P := List.getElem_mem lo
  have mt : P[t] ∈ P := List.getElem_mem lt
  have ro := q.row _ mo
  have rt := q.row _ mt
  have so := q.sz (by omega) _ mo
  have st := q.sz (by omega) _ mt
  by_cases z0 : way = 0
  · have li : dBI (h.set i (wD w4) ++ [AO.lst (rowsD P)]) .list [.lst (P[o].map fr)] = some (.new (P[o].map fr)) := rfl
    have pt := put_own (h := h) (i := i) (w := w4) (d := .lst (P[o].map fr)) la
    rw [rows_set] at pt
    exact ⟨P.set a P[o], w4, _, _, _, _, _, step1A c1 c2 c3 c4 rfl (by rw [decide_eq_true_eq]; exact z0) i1 li pt, q.put ro.1 (q.keep.row _ mo).2, k4.mono (by omega)⟩
  · have f0 : decide (way = 0) = false := by rw [decide_eq_false_iff_not]; exact z0
    by_cases z3 : way = 3
    · have hi4 : i < (h ++ [AO.lst (rowsD P)]).length := hi2
      rw [set_app hi] at i1
      obtain ⟨Y, w5, g, y1, y2, k5⟩ := gn_shift (N := N) (j := j) (h := h ++ [AO.lst (rowsD P)]) (w := w4) (p := .ref h.length) (e1 := some (.int n)) (e2 := some (.int m)) (e3 := some (.int a)) (e4 := some d) (e6 := some (.bl b)) (e7 := e7) (e8 := some (lessD (decide (way = 1)))) (e9 := e9) (e10 := some (.int way)) (e12 := some (.int t)) (e13 := none) (e14 := none) (e15 := none) (by omega) hN hi2 k4 (by omega) i1 so ro.2 (by omega)
      rw [← set_app hi, ← set_app hi] at g
      have pt := put_own (h := h) (i := i) (w := w5) (d := .lst (Y.map fr)) la
      rw [rows_set] at pt
      refine ⟨P.set a Y, w5, _, _, _, _, _, step1C c1 c2 c3 c4 rfl f0 (by rw [decide_eq_false_iff_not]; omega) (by rw [decide_eq_true_eq]; exact z3) g pt, q.put (by omega) (fun x hx => ?_), k5.mono (by omega)⟩
      have := (y2 x hx).up (e := 4) (by decide)
      rw [← dd_succ] at this
      exact this.mono (mm_le k)
    · have f3 : decide (way = 3) = false := by rw [decide_eq_false_iff_not]; exact z3
      have fl : decide (way < 3) = true := by rw [decide_eq_true_eq]; omega
      obtain ⟨bb, nn⟩ := nin2 (h := h.set i (wD w4) ++ [AO.lst (rowsD P)]) (a := (a : Int)) (o := (o : Int)) (t := (t : Int))
      cases bb with
      | false => exact ⟨P, w4, _, _, _, _, _, step1N c1 c2 c3 c4 rfl f0 fl nn f3, q.keep, k4.mono (by omega)⟩
      | true =>
        have g := gn_mid (N := N) (j := j) (b := decide (way = 1)) (e0 := some (.ref i)) (e1 := some (.int n)) (e2 := some (.int m)) (e3 := some (.int a)) (e4 := some d) (e6 := some (.bl b)) (e7 := e7) (e9 := e9) (e10 := some (.int way)) (e13 := none) (e14 := none) (e15 := none) (by omega) hN i1 i2 so st (by omega)
        have pt := put_own (h := h) (i := i) (w := w4) (d := .lst ((midR (decide (way = 1)) P[o] P[t]).map fr)) la
        rw [rows_set] at pt
        refine ⟨_, w4, _, _, _, _, _, step1B c1 c2 c3 c4 rfl f0 fl nn g pt, q.put (by rw [mid_len (by rw [ro.1, rt.1])]; exact ro.1) (fun x hx => ?_), k4.mono (by omega)⟩
        have := mid_Q ro.2 rt.2 x hx
        rw [← dd_succ] at this
        exact this
end Row
namespace Row
open PySem PySem.Spec PyProof.Rows L2 Ev
variable {N K : Nat} {h : AH}
theorem loop_pays1 {j i n0 n m t : Nat} {w : Wl} {P : List (List Rat)} {b : Bool} {z3 z7 z9 : Option D} (hj : 3 ≤ j) (hN : 1000000 ≤ N) (hi : i < h.length) (ok : WOk n0 w) (hn0 : n0 ≤ 590000) (hn : n ≤ 50) (hm : 0 < m) (ht : t ≤ 2) (q : QP n m (dd 0) (MM 0) P) :
    ∃ (P' : List (List Rat)) (w' : Wl) (z3' z4' z8' z10' z11' z12' : Option D), forL none (bodyF (cF tb N j) N (.name 4) b__law_pays_1) ((List.range t).map fun i => .int (i : Nat)) [some (.ref i), some (.int n), some (.int m), z3, none, some (.ref h.length), some (.bl b), z7, none, z9, none, none, none, none, none, none] (h.set i (wD w) ++ [.lst (rowsD P)])
      = some (.nx [some (.ref i), some (.int n), some (.int m), z3', z4', some (.ref h.length), some (.bl b), z7, z8', z9, z10', z11', z12', none, none, none] (h.set i (wD w') ++ [.lst (rowsD P')])) ∧ QP n m (dd t) (MM t) P' ∧ WOk (n0 + (4 + n) * t) w' := by
  obtain ⟨e', H', lp, P', w', z3', z4', z8', z10', z11', z12', qp, rfl, rfl, k⟩ := forL_inv (f := bodyF (cF tb N j) N (.name 4) b__law_pays_1)
    (fun pre e H => ∃ (P : List (List Rat)) (w' : Wl) (z3 z4 z8 z10 z11 z12 : Option D), QP n m (dd pre.length) (MM pre.length) P ∧ e = [some (.ref i), some (.int n), some (.int m), z3, z4, some (.ref h.length), some (.bl b), z7, z8, z9, z10, z11, z12, none, none, none] ∧ H = h.set i (wD w') ++ [.lst (rowsD P)] ∧ WOk (n0 + (4 + n) * pre.length) w')
    (ds := (List.range t).map fun i => .int (i : Nat)) [] (e := [some (.ref i), some (.int n), some (.int m), z3, none, some (.ref h.length), some (.bl b), z7, none, z9, none, none, none, none, none, none]) (h := h.set i (wD w) ++ [.lst (rowsD P)])
    ⟨P, w, z3, none, none, none, none, none, q, rfl, rfl, ok⟩ fun a d pb e H eq ih => by
      obtain ⟨P, w1, z3, z4, z8, z10, z11, z12, qp, rfl, rfl, k1⟩ := ih
      have len : a.length + (pb.length + 1) = t := by
        have := congrArg List.length eq
        simpa using this
      have a50 : (4 + n) * a.length ≤ 54 * 2 := Nat.mul_le_mul (by omega) (by omega)
      obtain ⟨P2, w2, y3, y8, y10, y11, y12, st, q2, k2⟩ := turn_pays1 (N := N) (j := j) (h := h) (i := i) (d := d) (b := b) (e3 := z3) (e4 := z4) (e7 := z7) (e8 := z8) (e9 := z9) (e10 := z10) (e11 := z11) (e12 := z12) hj hN hi k1 (by omega) hn hm (by omega) qp
      refine ⟨_, _, .inl st, P2, w2, y3, some d, y8, y10, y11, y12, ?_, rfl, rfl, k2.mono ?_⟩
      · rw [List.length_append]; exact q2
      · rw [List.length_append, List.length_cons, List.length_nil, Nat.mul_add, Nat.zero_add, Nat.mul_one]; omega
  simp only [List.nil_append, List.length_map, List.length_range] at qp k
  exact ⟨P', w', z3', z4', z8', z10', z11', z12', lp, qp, k⟩
/-! ### what is handed out -/
theorem turn_tup {j : Nat} {H : AH} {e0 e1 e2 e3 e4 e5 e6 e7 e8 e9 e10 e11 e12 e13 e14 e15 : Option D} {r o : D} (tu : dBI H .tuple [r] = some (.val o)) :
    gnF (cF tb N j) g__law_pays_1 [e0, e1, e2, e3, e4, e5, e6, e7, e8, e9, e10, e11, e12, e13, e14, e15] r H = some ([o], H) := by
  simp only [gnF, g__law_pays_1, dSs, dS_expr, dS_ret, dS_retN, dS_asg, dS_par, dS_aug, dS_ite, dS_for, dS_wh, dS_pass, dS_brk, dS_cnt, dP, dPs, dI, dG, dGs, dB, cSeq, cRet, cExpr, cAsg, cPar, setAll, cAug, augI, cIte, aVar, aC, tst, aTup, aLst, aBin, aNeg, aCmp, aChain, aNot, aIte, aIx, aO, aSl, dCut, aCall, aCallk, aBi, aMeth, aFin, aEl, aOT, aSeq, aRange1_eq, aEnum, aZip, wipeE, List.foldl_cons, List.foldl_nil, aCons, aStar, aAndV, aOrV, aAnd, aOr, aNotT, gNm, gTp, gNl, gCn, Rz.fin, truth, dc_eq_int, dc_ne_int, dc_eq_fr, dc_eq_str, dc_ne_str, dc_lt, dc_le, dc_gt, dc_ge, dc_is, dc_isn, dBin, List.getElem?_cons_zero, List.getElem?_cons_succ, List.set_cons_zero, List.set_cons_succ, List.map_cons, List.map_nil, List.length_cons, List.length_nil, List.replicate, List.cons_append, List.nil_append, List.append_nil, Nat.reduceAdd, Nat.reduceSub, Nat.sub_self, Nat.reduceLeDiff, if_true, if_false, Bool.false_eq_true, reduceIte, Int.cast_ofNat_Int, eq_self, decide_true, decide_false, Bool.not_true, Bool.not_false, Bool.and_self, Bool.and_true, Bool.true_and, Bool.and_false, Bool.false_and, Bool.or_false, Bool.false_or, Bool.or_true, Bool.true_or, isi1, isi2, isi3, isi4, isi5, isi6, ok_int, deq_int, view_int, view_fr, view_str, ok_fr, eq_fr, view_tup, view_lst, ty_fr, tyN, List.any_cons, List.any_nil, atI_0, atI_1, atI_2, atI_3, atI_n, most, runB_rt, runB_nx, fin_same, tu]
theorem gn_tup {j i : Nat} {w : Wl} {P : List (List Rat)} {e0 e1 e2 e3 e4 e6 e7 e8 e9 e10 e11 e12 e13 e14 e15 : Option D} (hl : P.length ≤ 50) :
    dGn (cF tb N j) g__law_pays_1 [e0, e1, e2, e3, e4, some (.ref h.length), e6, e7, e8, e9, e10, e11, e12, e13, e14, e15] (h.set i (wD w) ++ [.lst (rowsD P)]) = some (P.map rowD, h.set i (wD w) ++ [.lst (rowsD P)]) := by
  refine gn_of (ds := rowsD P) (ck := some (h.length, rowsD P)) (h1 := h.set i (wD w) ++ [.lst (rowsD P)]) ?_ ?_
  · rw [gs__law_pays_1]
    simp only [dI, dP, aSeq, aVar, List.getElem?_cons_zero, List.getElem?_cons_succ, own_at]
  · have := lc_mapC (ck := some (h.length, rowsD P)) (f := gnF (cF tb N j) g__law_pays_1 [e0, e1, e2, e3, e4, some (.ref h.length), e6, e7, e8, e9, e10, e11, e12, e13, e14, e15]) (h := h.set i (wD w) ++ [AO.lst (rowsD P)]) (show ckOk _ _ from own_at) (fun r : List Rat => D.lst (r.map fr)) rowD (l := P) (acc := []) (fun r hr => turn_tup rfl) (by unfold most; simp only [List.length_nil]; omega)
    rw [List.nil_append] at this
    exact this
theorem freezes_rows {n : Nat} {h' : AH} : ∀ P : List (List Rat), freezes n h' (P.map rowD) = some (P.map rowD)
  | [] => rfl
  | r :: P => by
    have e : freeze n h' (rowD r) = some (rowD r) := by unfold rowD; simp only [freeze, freezes_frs, Option.map_some]
    simp only [List.map_cons, freezes, e, freezes_rows P]
/-- as fin_drop, of anything that has no list of its own -/
theorem fin_dropV {i : Nat} {w w' : Wl} {xs : List D} {v v' : D} (hi : i < h.length) (fz : freeze h.length (h.set i (wD w') ++ [.lst xs]) v = some v') : fin false (h.set i (wD w)) (h.set i (wD w') ++ [.lst xs]) v = some (v', h.set i (wD w')) := by
  unfold fin
  have l0 : (h.set i (wD w)).length = h.length := List.length_set
  have l1 : (h.set i (wD w')).length = h.length := List.length_set
  have l2 : (h.set i (wD w') ++ [AO.lst xs]).length = h.length + 1 := by rw [List.length_append, l1] <;> rfl
  have ok : oldOk (h.set i (wD w)) (h.set i (wD w') ++ [.lst xs]) := by
    intro k ao hk e
    rw [l0] at hk
    rw [List.getElem?_append_left (by rw [l1]; exact hk)] at e
    by_cases z : k = i
    · subst z
      rw [List.getElem?_set_self hk] at e
      cases e
      exact .inr rfl
    · rw [List.getElem?_set_ne (Ne.symm z)] at e
      exact .inl (by rw [List.getElem?_set_ne (Ne.symm z)]; exact e)
  rw [if_neg (by rw [l2, l0]; omega), if_pos ok, l0, fz]
  simp only [Bool.false_eq_true, if_false, Option.map_some]
  rw [List.take_append_of_le_length (by rw [l1]; exact Nat.le_refl _), List.take_of_length_le (by rw [l1]; exact Nat.le_refl _)]
section
variable {j : Nat} {x o : D} {nn k a s : Int} {l1 l2 l : List D} {z3 z7 z9 z4' z3' z8' z10' z11' z12' : Option D} {b : Bool} {H0 H1 H2 H3 H4 H5 : AH}
theorem run_pays (dr : cF tb N j "_law_draw" [x, .int 2] (H0 ++ [.lst []]) = some (.int a, H1)) (hb : decide (a = 0) = b) (rn : rng1 k H1 = some (l1, none, H1))
    (lp : forL none (bodyF (cF tb N j) N (.name 3) b__law_pays_2) l1 [some x, some (.int nn), some (.int k), none, none, some (.ref H0.length), some (.bl b), none, none, none, none, none, none, none, none, none] H1 = some (.nx [some x, some (.int nn), some (.int k), z3, none, some (.ref H0.length), some (.bl b), z7, none, z9, none, none, none, none, none, none] H2))
    (kk : decide (1 < k) = true) (dr2 : cF tb N j "_law_draw" [x, .int 3] H2 = some (.int s, H3)) (rn2 : rng1 s H3 = some (l2, none, H3))
    (lp2 : forL none (bodyF (cF tb N j) N (.name 4) b__law_pays_1) l2 [some x, some (.int nn), some (.int k), z3, none, some (.ref H0.length), some (.bl b), z7, none, z9, none, none, none, none, none, none] H3 = some (.nx [some x, some (.int nn), some (.int k), z3', z4', some (.ref H0.length), some (.bl b), z7, z8', z9, z10', z11', z12', none, none, none] H4))
    (q : dGn (cF tb N j) g__law_pays_1 [some x, some (.int nn), some (.int k), z3', z4', some (.ref H0.length), some (.bl b), z7, z8', z9, z10', z11', z12', none, none, none] H4 = some (l, H4)) (tu : dBI H4 .tuple [.lst l] = some (.val o)) (fn : fin false H0 H4 o = some (o, H5)) :
    runB false (dSs (cF tb N j) N b__law_pays ([x, .int nn, .int k].map some ++ List.replicate (16 - [x, D.int nn, D.int k].length) none) H0) H0 = some (o, H5) := by
  simp only [b__law_pays, dSs, dS_expr, dS_ret, dS_retN, dS_asg, dS_par, dS_aug, dS_ite, dS_for, dS_wh, dS_pass, dS_brk, dS_cnt, dP, dPs, dI, dG, dGs, dB, cSeq, cRet, cExpr, cAsg, cPar, setAll, cAug, augI, cIte, aVar, aC, tst, aTup, aLst, aBin, aNeg, aCmp, aChain, aNot, aIte, aIx, aO, aSl, dCut, aCall, aCallk, aBi, aMeth, aFin, aEl, aOT, aSeq, aRange1_eq, aEnum, aZip, wipeE, List.foldl_cons, List.foldl_nil, aCons, aStar, aAndV, aOrV, aAnd, aOr, aNotT, gNm, gTp, gNl, gCn, Rz.fin, truth, dc_eq_int, dc_ne_int, dc_eq_fr, dc_eq_str, dc_ne_str, dc_lt, dc_le, dc_gt, dc_ge, dc_is, dc_isn, dBin, List.getElem?_cons_zero, List.getElem?_cons_succ, List.set_cons_zero, List.set_cons_succ, List.map_cons, List.map_nil, List.length_cons, List.length_nil, List.replicate, List.cons_append, List.nil_append, List.append_nil, Nat.reduceAdd, Nat.reduceSub, Nat.sub_self, Nat.reduceLeDiff, if_true, if_false, Bool.false_eq_true, reduceIte, Int.cast_ofNat_Int, eq_self, decide_true, decide_false, Bool.not_true, Bool.not_false, Bool.and_self, Bool.and_true, Bool.true_and, Bool.and_false, Bool.false_and, Bool.or_false, Bool.false_or, Bool.or_true, Bool.true_or, isi1, isi2, isi3, isi4, isi5, isi6, ok_int, deq_int, view_int, view_fr, view_str, ok_fr, eq_fr, view_tup, view_lst, ty_fr, tyN, List.any_cons, List.any_nil, atI_0, atI_1, atI_2, atI_3, atI_n, most, runB_rt, runB_nx, fin_same, List.zip_cons_cons, List.zip_nil_left, List.zip_nil_right, dr, hb, rn, lp, kk, dr2, rn2, lp2, q, tu, fn]
theorem run_paysS (dr : cF tb N j "_law_draw" [x, .int 2] (H0 ++ [.lst []]) = some (.int a, H1)) (hb : decide (a = 0) = b) (rn : rng1 k H1 = some (l1, none, H1))
    (lp : forL none (bodyF (cF tb N j) N (.name 3) b__law_pays_2) l1 [some x, some (.int nn), some (.int k), none, none, some (.ref H0.length), some (.bl b), none, none, none, none, none, none, none, none, none] H1 = some (.nx [some x, some (.int nn), some (.int k), z3, none, some (.ref H0.length), some (.bl b), z7, none, z9, none, none, none, none, none, none] H2))
    (kk : decide (1 < k) = false) (rn2 : rng1 0 H2 = some (l2, none, H2))
    (lp2 : forL none (bodyF (cF tb N j) N (.name 4) b__law_pays_1) l2 [some x, some (.int nn), some (.int k), z3, none, some (.ref H0.length), some (.bl b), z7, none, z9, none, none, none, none, none, none] H2 = some (.nx [some x, some (.int nn), some (.int k), z3', z4', some (.ref H0.length), some (.bl b), z7, z8', z9, z10', z11', z12', none, none, none] H4))
    (q : dGn (cF tb N j) g__law_pays_1 [some x, some (.int nn), some (.int k), z3', z4', some (.ref H0.length), some (.bl b), z7, z8', z9, z10', z11', z12', none, none, none] H4 = some (l, H4)) (tu : dBI H4 .tuple [.lst l] = some (.val o)) (fn : fin false H0 H4 o = some (o, H5)) :
    runB false (dSs (cF tb N j) N b__law_pays ([x, .int nn, .int k].map some ++ List.replicate (16 - [x, D.int nn, D.int k].length) none) H0) H0 = some (o, H5) := by
  simp only [b__law_pays, dSs, dS_expr, dS_ret, dS_retN, dS_asg, dS_par, dS_aug, dS_ite, dS_for, dS_wh, dS_pass, dS_brk, dS_cnt, dP, dPs, dI, dG, dGs, dB, cSeq, cRet, cExpr, cAsg, cPar, setAll, cAug, augI, cIte, aVar, aC, tst, aTup, aLst, aBin, aNeg, aCmp, aChain, aNot, aIte, aIx, aO, aSl, dCut, aCall, aCallk, aBi, aMeth, aFin, aEl, aOT, aSeq, aRange1_eq, aEnum, aZip, wipeE, List.foldl_cons, List.foldl_nil, aCons, aStar, aAndV, aOrV, aAnd, aOr, aNotT, gNm, gTp, gNl, gCn, Rz.fin, truth, dc_eq_int, dc_ne_int, dc_eq_fr, dc_eq_str, dc_ne_str, dc_lt, dc_le, dc_gt, dc_ge, dc_is, dc_isn, dBin, List.getElem?_cons_zero, List.getElem?_cons_succ, List.set_cons_zero, List.set_cons_succ, List.map_cons, List.map_nil, List.length_cons, List.length_nil, List.replicate, List.cons_append, List.nil_append, List.append_nil, Nat.reduceAdd, Nat.reduceSub, Nat.sub_self, Nat.reduceLeDiff, if_true, if_false, Bool.false_eq_true, reduceIte, Int.cast_ofNat_Int, eq_self, decide_true, decide_false, Bool.not_true, Bool.not_false, Bool.and_self, Bool.and_true, Bool.true_and, Bool.and_false, Bool.false_and, Bool.or_false, Bool.false_or, Bool.or_true, Bool.true_or, isi1, isi2, isi3, isi4, isi5, isi6, ok_int, deq_int, view_int, view_fr, view_str, ok_fr, eq_fr, view_tup, view_lst, ty_fr, tyN, List.any_cons, List.any_nil, atI_0, atI_1, atI_2, atI_3, atI_n, most, runB_rt, runB_nx, fin_same, List.zip_cons_cons, List.zip_nil_left, List.zip_nil_right, dr, hb, rn, lp, kk, rn2, lp2, q, tu, fn]
end
end Row
namespace Row
open PySem PySem.Spec PyProof.Rows L2 Ev
variable {N K : Nat} {h : AH}
theorem D_pays {i n0 n m : Nat} {w : Wl} (hK : 4 ≤ K) (hN : 1000000 ≤ N) (hi : i < h.length) (ok : WOk n0 w) (hn0 : n0 ≤ 400000) (hn : n ≤ 4) (hm : 1 ≤ m) (hm5 : m ≤ 5) :
    ∃ (P : List (List Rat)) (w' : Wl), cF tb N K "_law_pays" [.ref i, .int n, .int m] (h.set i (wD w)) = some (tabD P, h.set i (wD w')) ∧ QP n m (dd 2) (MM 2) P ∧ WOk (n0 + 200) w' := by
  obtain ⟨j, rfl, hj⟩ := dep hK
  have hl : ∀ w : Wl, (h.set i (wD w)).length = h.length := fun _ => List.length_set
  have hi2 : i < (h ++ [AO.lst []]).length := by rw [List.length_append]; omega
  obtain ⟨a, w1, dr, a0, a1, k1⟩ := D_draw (N := N) (K := j) (h := h ++ [AO.lst []]) (few := 2) (by omega) hi2 ok (by omega) (by decide)
  rw [← set_app hi, ← set_app hi] at dr
  obtain ⟨P1, w2, z3, z7, z9, lp, q1, k2⟩ := loop_pays2 (N := N) (h := h) (j := j) (b := decide (a = 0)) (n := n) (m := m) hj hN hi k1 (by omega) (by omega) (by omega)
  have nm : 4 * n * m ≤ 16 * 5 := Nat.mul_le_mul (by omega) hm5
  have rn := rng1_nat (h := h.set i (wD w1) ++ [AO.lst []]) (n := m) (by omega)
  have dd0 : dd 0 = L60 := by unfold dd; rw [Nat.pow_zero, Nat.one_mul]
  have q0 : QP n m (dd 0) (MM 0) P1 := by rw [dd0]; exact q1
  rw [call_at lk__law_pays (by rfl)]
  have hr : (h.set i (wD w)).length = h.length := hl w
  have fz : ∀ (P : List (List Rat)) (w' : Wl), fin false (h.set i (wD w)) (h.set i (wD w') ++ [.lst (rowsD P)]) (tabD P) = some (tabD P, h.set i (wD w')) := fun P w' =>
    fin_dropV hi (by unfold tabD; simp only [freeze, freezes_rows, Option.map_some])
  by_cases k0 : 1 < m
  · have hi3 : i < (h ++ [AO.lst (rowsD P1)]).length := by rw [List.length_append]; omega
    obtain ⟨s, w3, dr2, s0, s1, k3⟩ := D_draw (N := N) (K := j) (h := h ++ [AO.lst (rowsD P1)]) (few := 3) (by omega) hi3 k2 (by omega) (by decide)
    rw [← set_app hi, ← set_app hi] at dr2
    obtain ⟨s, rfl⟩ : ∃ u : Nat, s = u := ⟨s.toNat, by omega⟩
    obtain ⟨P2, w4, z3', z4', z8', z10', z11', z12', lp2, q2, k4⟩ := loop_pays1 (N := N) (h := h) (j := j) (i := i) (b := decide (a = 0)) (z3 := z3) (z7 := z7) (z9 := z9) (t := s) hj hN hi k3 (by omega) (by omega) (by omega) (by omega) q0
    have rn2 := rng1_nat (h := h.set i (wD w3) ++ [AO.lst (rowsD P1)]) (n := s) (by omega)
    have g := gn_tup (N := N) (h := h) (j := j) (i := i) (w := w4) (P := P2) (e0 := some (.ref i)) (e1 := some (.int n)) (e2 := some (.int m)) (e3 := z3') (e4 := z4') (e6 := some (.bl (decide (a = 0)))) (e7 := z7) (e8 := z8') (e9 := z9) (e10 := z10') (e11 := z11') (e12 := z12') (e13 := none) (e14 := none) (e15 := none) (by rw [q2.len]; omega)
    have s54 : (4 + n) * s ≤ 8 * 2 := Nat.mul_le_mul (by omega) (by omega)
    have f2 : QP n m (dd 2) (MM 2) P2 := by
      have ss : s = 0 ∨ s = 1 ∨ s = 2 := by omega
      rcases ss with rfl | rfl | rfl
      · exact q2.keep.keep
      · exact q2.keep
      · exact q2
    refine ⟨P2, w4, ?_, f2, k4.mono (by omega)⟩
    have fn := fz P2 w4
    rw [← hr] at lp lp2 g
    exact run_pays dr rfl rn lp (by rw [decide_eq_true_eq]; omega) dr2 rn2 lp2 g rfl fn
  · obtain ⟨P2, w4, z3', z4', z8', z10', z11', z12', lp2, q2, k4⟩ := loop_pays1 (N := N) (h := h) (j := j) (i := i) (b := decide (a = 0)) (z3 := z3) (z7 := z7) (z9 := z9) (t := 0) hj hN hi k2 (by omega) (by omega) (by omega) (by omega) q0
    have rn2 := rng1_nat (h := h.set i (wD w2) ++ [AO.lst (rowsD P1)]) (n := 0) (by omega)
    have g := gn_tup (N := N) (h := h) (j := j) (i := i) (w := w4) (P := P2) (e0 := some (.ref i)) (e1 := some (.int n)) (e2 := some (.int m)) (e3 := z3') (e4 := z4') (e6 := some (.bl (decide (a = 0)))) (e7 := z7) (e8 := z8') (e9 := z9) (e10 := z10') (e11 := z11') (e12 := z12') (e13 := none) (e14 := none) (e15 := none) (by rw [q2.len]; omega)
    refine ⟨P2, w4, ?_, q2.keep.keep, k4.mono (by omega)⟩
    have fn := fz P2 w4
    rw [← hr] at lp lp2 g
    exact run_paysS dr rfl rn lp (by rw [decide_eq_false_iff_not]; omega) rn2 lp2 g rfl fn
end Row
namespace Row
open PySem PySem.Spec PyProof.Rows L2 Ev
variable {N K : Nat} {h : AH}
/-! ### one place of a tuple changed by slices -/
theorem cut_to {xs : List D} {s : Nat} (hs : s ≤ xs.length) : dCut h (.tup xs) none (some (s : Int)) = some (.tup (xs.take s)) := by
  unfold dCut cut
  simp only [HT.sIx_none, HT.sIx_nat, List.drop_zero, Nat.sub_zero, Nat.min_eq_left hs]
theorem cut_from {xs : List D} {s : Nat} (hs : s < xs.length) : dCut h (.tup xs) (some ((s : Int) + 1)) none = some (.tup (xs.drop (s + 1))) := by
  have e : ((s : Int) + 1) = ((s + 1 : Nat) : Int) := by omega
  unfold dCut cut
  rw [e]
  simp only [HT.sIx_none, HT.sIx_nat, Nat.min_eq_left (show s + 1 ≤ xs.length by omega)]
  rw [List.take_of_length_le (by rw [List.length_drop]; exact Nat.le_refl _)]
theorem cut_add1 {xs : List D} {s : Nat} {y : D} (hl : xs.length ≤ 1000) : dBin h .add (.tup (xs.take s)) (.tup [y]) = some (.val (.tup (xs.take s ++ [y]))) := by
  unfold dBin
  simp only
  rw [if_pos (by rw [List.length_take]; unfold most; simp only [List.length_cons, List.length_nil]; omega)]
theorem cut_add2 {xs : List D} {s : Nat} {y : D} (hs : s < xs.length) (hl : xs.length ≤ 1000) : dBin h .add (.tup (xs.take s ++ [y])) (.tup (xs.drop (s + 1))) = some (.val (.tup (xs.set s y))) := by
  unfold dBin
  simp only
  rw [if_pos (by rw [List.length_append, List.length_take, List.length_drop]; unfold most; simp only [List.length_cons, List.length_nil]; omega)]
  rw [List.set_eq_take_append_cons_drop, if_pos hs, List.append_assoc] <;> rfl
section
variable {j : Nat} {x p c : D} {m a b s : Int} {l : List D} {r1 r2 t1 t2 t3 t4 t5 cs y u1 u2 u3 u4 v1 v2 v3 o : D} {H0 H1 H2 H3 : AH}
theorem run_tiedA (ln0 : dBI H0 .len [p] = some (.val (.int m))) (d1 : cF tb N j "_law_draw" [x, .int m] H0 = some (.int a, H1)) (ln1 : dBI H1 .len [p] = some (.val (.int m))) (d2 : cF tb N j "_law_draw" [x, .int m] H1 = some (.int b, H2))
    (eq : decide (a = b) = true) (le : H2.length = H0.length) :
    runB false (dSs (cF tb N j) N b__law_tied ([x, p, c].map some ++ List.replicate (9 - [x, p, c].length) none) H0) H0 = some (p, H2) := by
  simp only [b__law_tied, dSs, dS_expr, dS_ret, dS_retN, dS_asg, dS_par, dS_aug, dS_ite, dS_for, dS_wh, dS_pass, dS_brk, dS_cnt, dP, dPs, dI, dG, dGs, dB, cSeq, cRet, cExpr, cAsg, cPar, setAll, cAug, augI, cIte, aVar, aC, tst, aTup, aLst, aBin, aNeg, aCmp, aChain, aNot, aIte, aIx, aO, aSl, aCall, aCallk, aBi, aMeth, aFin, aEl, aOT, aSeq, aRange1_eq, aEnum, aZip, wipeE, List.foldl_cons, List.foldl_nil, aCons, aStar, aAndV, aOrV, aAnd, aOr, aNotT, gNm, gTp, gNl, gCn, Rz.fin, truth, dc_eq_int, dc_ne_int, dc_eq_fr, dc_eq_str, dc_ne_str, dc_lt, dc_le, dc_gt, dc_ge, dc_is, dc_isn, List.getElem?_cons_zero, List.getElem?_cons_succ, List.set_cons_zero, List.set_cons_succ, List.map_cons, List.map_nil, List.length_cons, List.length_nil, List.replicate, List.cons_append, List.nil_append, List.append_nil, Nat.reduceAdd, Nat.reduceSub, Nat.sub_self, Nat.reduceLeDiff, if_true, if_false, Bool.false_eq_true, reduceIte, Int.cast_ofNat_Int, eq_self, decide_true, decide_false, Bool.not_true, Bool.not_false, Bool.and_self, Bool.and_true, Bool.true_and, Bool.and_false, Bool.false_and, Bool.or_false, Bool.false_or, Bool.or_true, Bool.true_or, isi1, isi2, isi3, isi4, isi5, isi6, ok_int, deq_int, view_int, view_fr, view_str, ok_fr, eq_fr, view_tup, view_lst, ty_fr, tyN, List.any_cons, List.any_nil, atI_0, atI_1, atI_2, atI_3, atI_n, most, runB_rt, runB_nx, fin_same, List.zip_cons_cons, List.zip_nil_left, List.zip_nil_right, ln0, d1, ln1, d2, eq]
  exact fin_len le
theorem run_tiedB (ln0 : dBI H0 .len [p] = some (.val (.int m))) (d1 : cF tb N j "_law_draw" [x, .int m] H0 = some (.int a, H1)) (ln1 : dBI H1 .len [p] = some (.val (.int m))) (d2 : cF tb N j "_law_draw" [x, .int m] H1 = some (.int b, H2))
    (eq : decide (a = b) = false) (q : dGn (cF tb N j) g__law_tied_1 [some x, some p, some c, none, none, none, some (.int a), some (.int b), none] H2 = some (l, H2)) (d3 : cF tb N j "_law_one" [x, .lst l] H2 = some (.int s, H3))
    (i1 : dIx H3 p (.int a) = some r1) (i2 : dIx H3 p (.int b) = some r2) (e1 : cF tb N j "_law_dot" [r1, c] H3 = some (t1, H3)) (e2 : cF tb N j "_law_dot" [r2, c] H3 = some (t2, H3)) (e3 : cF tb N j "_law_minus" [t1, t2] H3 = some (t3, H3))
    (i3 : dIx H3 c (.int s) = some cs) (e4 : cF tb N j "_law_over" [t3, cs] H3 = some (t4, H3)) (i4 : dIx H3 r2 (.int s) = some y) (e5 : cF tb N j "_law_plus" [y, t4] H3 = some (t5, H3))
    (k1 : dCut H3 r2 none (some s) = some u1) (k2 : dBin H3 .add u1 (.tup [t5]) = some (.val u2)) (k3 : dCut H3 r2 (some (s + 1)) none = some u3) (k4 : dBin H3 .add u2 u3 = some (.val u4))
    (j1 : dCut H3 p none (some b) = some v1) (j2 : dBin H3 .add v1 (.tup [u4]) = some (.val v2)) (j3 : dCut H3 p (some (b + 1)) none = some v3) (j4 : dBin H3 .add v2 v3 = some (.val o)) (le : H3.length = H0.length) :
    runB false (dSs (cF tb N j) N b__law_tied ([x, p, c].map some ++ List.replicate (9 - [x, p, c].length) none) H0) H0 = some (o, H3) := by
  simp only [b__law_tied, dSs, dS_expr, dS_ret, dS_retN, dS_asg, dS_par, dS_aug, dS_ite, dS_for, dS_wh, dS_pass, dS_brk, dS_cnt, dP, dPs, dI, dG, dGs, dB, cSeq, cRet, cExpr, cAsg, cPar, setAll, cAug, augI, cIte, aVar, aC, tst, aTup, aLst, aBin, aNeg, aCmp, aChain, aNot, aIte, aIx, aO, aSl, aCall, aCallk, aBi, aMeth, aFin, aEl, aOT, aSeq, aRange1_eq, aEnum, aZip, wipeE, List.foldl_cons, List.foldl_nil, aCons, aStar, aAndV, aOrV, aAnd, aOr, aNotT, gNm, gTp, gNl, gCn, Rz.fin, truth, dc_eq_int, dc_ne_int, dc_eq_fr, dc_eq_str, dc_ne_str, dc_lt, dc_le, dc_gt, dc_ge, dc_is, dc_isn, List.getElem?_cons_zero, List.getElem?_cons_succ, List.set_cons_zero, List.set_cons_succ, List.map_cons, List.map_nil, List.length_cons, List.length_nil, List.replicate, List.cons_append, List.nil_append, List.append_nil, Nat.reduceAdd, Nat.reduceSub, Nat.sub_self, Nat.reduceLeDiff, if_true, if_false, Bool.false_eq_true, reduceIte, Int.cast_ofNat_Int, eq_self, decide_true, decide_false, Bool.not_true, Bool.not_false, Bool.and_self, Bool.and_true, Bool.true_and, Bool.and_false, Bool.false_and, Bool.or_false, Bool.false_or, Bool.or_true, Bool.true_or, isi1, isi2, isi3, isi4, isi5, isi6, ok_int, deq_int, view_int, view_fr, view_str, ok_fr, eq_fr, view_tup, view_lst, ty_fr, tyN, List.any_cons, List.any_nil, atI_0, atI_1, atI_2, atI_3, atI_n, most, runB_rt, runB_nx, fin_same, List.zip_cons_cons, List.zip_nil_left, List.zip_nil_right, ln0, d1, ln1, d2, eq, q, d3, i1, i2, e1, e2, e3, i3, e4, i4, e5, k1, k2, k3, k4, j1, j2, j3, j4, db_add]
  exact fin_len le
end
/-! the places of a chance above 0 -/
theorem turn_plc {j : Nat} {H : AH} {e0 e1 e3 e4 e5 e6 e7 e8 : Option D} {c y : D} {k v : Int} (i1 : dIx H c (.int k) = some y) (i2 : dIx H y (.int 0) = some (.int v)) :
    gnF (cF tb N j) g__law_tied_1 [e0, e1, some c, e3, e4, e5, e6, e7, e8] (.int k) H = some (if decide (0 < v) then [.int k] else [], H) := by
  cases z : decide (0 < v) <;> simp only [gnF, g__law_tied_1, dSs, dS_expr, dS_ret, dS_retN, dS_asg, dS_par, dS_aug, dS_ite, dS_for, dS_wh, dS_pass, dS_brk, dS_cnt, dP, dPs, dI, dG, dGs, dB, cSeq, cRet, cExpr, cAsg, cPar, setAll, cAug, augI, cIte, aVar, aC, tst, aTup, aLst, aBin, aNeg, aCmp, aChain, aNot, aIte, aIx, aO, aSl, dCut, aCall, aCallk, aBi, aMeth, aFin, aEl, aOT, aSeq, aRange1_eq, aEnum, aZip, wipeE, List.foldl_cons, List.foldl_nil, aCons, aStar, aAndV, aOrV, aAnd, aOr, aNotT, gNm, gTp, gNl, gCn, Rz.fin, truth, dc_eq_int, dc_ne_int, dc_eq_fr, dc_eq_str, dc_ne_str, dc_lt, dc_le, dc_gt, dc_ge, dc_is, dc_isn, dBin, List.getElem?_cons_zero, List.getElem?_cons_succ, List.set_cons_zero, List.set_cons_succ, List.map_cons, List.map_nil, List.length_cons, List.length_nil, List.replicate, List.cons_append, List.nil_append, List.append_nil, Nat.reduceAdd, Nat.reduceSub, Nat.sub_self, Nat.reduceLeDiff, if_true, if_false, Bool.false_eq_true, reduceIte, Int.cast_ofNat_Int, eq_self, decide_true, decide_false, Bool.not_true, Bool.not_false, Bool.and_self, Bool.and_true, Bool.true_and, Bool.and_false, Bool.false_and, Bool.or_false, Bool.false_or, Bool.or_true, Bool.true_or, isi1, isi2, isi3, isi4, isi5, isi6, ok_int, deq_int, view_int, view_fr, view_str, ok_fr, eq_fr, view_tup, view_lst, ty_fr, tyN, List.any_cons, List.any_nil, atI_0, atI_1, atI_2, atI_3, atI_n, most, runB_rt, runB_nx, fin_same, i1, i2, z]
def plcs (c : List Rat) : List Nat := (List.range c.length).filter fun k => decide (0 < (c.getD k 0).num)
theorem gn_plc {j : Nat} {H : AH} {e0 e1 e3 e4 e5 e6 e7 e8 : Option D} {c : List Rat} (hl : c.length ≤ 50) :
    dGn (cF tb N j) g__law_tied_1 [e0, e1, some (rowD c), e3, e4, e5, e6, e7, e8] H = some ((plcs c).map fun i => .int (i : Nat), H) := by
  refine gn_of (ds := (List.range c.length).map fun i => .int (i : Nat)) (ck := none) (h1 := H) ?_ ?_
  · have rn := rng1_nat (h := H) (n := c.length) (by omega)
    rw [gs__law_tied_1, ← rn]
    have ln : dBI H .len [rowD c] = some (.val (.int (c.length : Nat))) := by unfold rowD dBI dB1 seqOf; simp only [List.length_map]
    simp only [dI, dP, dPs, aBi, aCons, aRange1_eq, aVar, List.getElem?_cons_zero, List.getElem?_cons_succ, ln, Rz.fin, Bool.false_eq_true, if_false]
  · unfold plcs
    refine lc_filR (fun i : Nat => D.int (i : Nat)) (fun k => decide (0 < (c.getD k 0).num)) (fun i : Nat => D.int (i : Nat)) (fun k hk => ?_) (by rw [List.length_range]; unfold most; omega)
    rw [List.mem_range] at hk
    have i1 : dIx H (rowD c) (.int (k : Nat)) = some (fr (c.getD k 0)) := by
      unfold dIx rowD seqOf
      simp only [atI_n, getD_fr hk]
    exact turn_plc i1 rfl
end Row
namespace Row
open PySem PySem.Spec PyProof.Rows L2 Ev
variable {N K : Nat} {h : AH}
/-! ### bounds -/
theorem le_pow {a b x y : Nat} (h1 : a ≤ 2 ^ x) (h2 : b ≤ 2 ^ y) : a * b ≤ 2 ^ (x + y) := by rw [Nat.pow_add]; exact Nat.mul_le_mul h1 h2
theorem Q.szB {d M a b : Nat} {q : Rat} (h : Q d M q) (h1 : d ≤ 2 ^ a) (h2 : M ≤ 2 ^ b) : Sz (a + b + 1) q := by
  have p := le_pow h2 h1
  have e : 2 ^ (a + b + 1) = 2 * 2 ^ (b + a) := by rw [Nat.pow_succ, Nat.add_comm a b, Nat.mul_comm]
  have l : 2 ^ a ≤ 2 ^ (b + a) := Nat.pow_le_pow_right (by decide) (by omega)
  have z : 0 < 2 ^ (b + a) := Nat.pow_pos (by decide)
  exact h.sz (by omega) (by omega)
/-- tables of one short denominator -/
def QB (B n m : Nat) (P : List (List Rat)) : Prop := ∃ d M, d ≤ 2 ^ B ∧ M ≤ 2 ^ B ∧ d ≠ 0 ∧ QP n m d M P
theorem QB.mono {B C n m : Nat} {P : List (List Rat)} (q : QB B n m P) (l : B ≤ C) : QB C n m P := by
  obtain ⟨d, M, a, b, c, e⟩ := q
  have := Nat.pow_le_pow_right (n := 2) (by decide) l
  exact ⟨d, M, by omega, by omega, c, e⟩
theorem QB.sz {B n m : Nat} {P : List (List Rat)} (q : QB B n m P) (l : B ≤ 400) : ∀ r ∈ P, ∀ x ∈ r, Sz 900 x := fun r hr x hx => by
  obtain ⟨d, M, a, b, c, e⟩ := q
  exact (((e.row r hr).2 x hx).szB a b).mono (by omega)
theorem QB.len {B n m : Nat} {P : List (List Rat)} (q : QB B n m P) : P.length = m := by
  obtain ⟨d, M, a, b, c, e⟩ := q
  exact e.len
theorem QB.row {B n m : Nat} {P : List (List Rat)} (q : QB B n m P) : ∀ r ∈ P, r.length = n := by
  obtain ⟨d, M, a, b, c, e⟩ := q
  exact fun r hr => (e.row r hr).1
/-- a chance of few parts -/
structure CQ (n S : Nat) (c : List Rat) : Prop where
  len : c.length = n
  s0 : S ≠ 0
  s1 : S ≤ 68
  row : ∀ y ∈ c, ∃ v ∈ partL, v ≤ S ∧ y = mkRat (v : Nat) S
  sum : sumR c = 1
theorem CQ.q {n S : Nat} {c : List Rat} (k : CQ n S c) : ∀ y ∈ c, Q S 1 y := fun y hy => by
  obtain ⟨v, hv, l, rfl⟩ := k.row y hy
  exact ⟨k.s0, v, rfl, by rw [Int.natAbs_natCast]; omega⟩
theorem CQ.sz {n S : Nat} {c : List Rat} (k : CQ n S c) : ∀ y ∈ c, Sz 9 y := fun y hy => ((k.q y hy).szB (a := 7) (b := 0) (by have := k.s1; omega) (by decide)).mono (by decide)
theorem num_mk {v S : Nat} (h : S ≠ 0) : 0 ≤ (mkRat (v : Int) S).num := by
  rw [(mk_num h).1]
  exact Int.ediv_nonneg (by omega) (by omega)
theorem CQ.ch {n S : Nat} {c : List Rat} (k : CQ n S c) : Ch n c := ⟨k.len, fun x hx => (k.sz x hx).mono (by decide), fun x hx => by
  obtain ⟨v, hv, l, rfl⟩ := k.row x hx
  rw [← Rat.num_nonneg]
  exact num_mk k.s0, k.sum⟩
theorem Q.zero {d : Nat} (h : d ≠ 0) : Q d 0 0 := ⟨h, 0, by rw [Rat.zero_mkRat], by simp⟩
theorem dot_Q {d M S : Nat} (hd : d ≠ 0) (hS : S ≠ 0) {r c : List Rat} (hr : ∀ x ∈ r, Q d M x) (hc : ∀ y ∈ c, Q S 1 y) : Q (d * S) (r.length * M) (dotR r c) := by
  have key : ∀ (l : List (Rat × Rat)) (A : Nat) (s : Rat), Q (d * S) A s → (∀ p ∈ l, Q d M p.1 ∧ Q S 1 p.2) → Q (d * S) (A + l.length * M) (l.foldl (fun s p => s + p.1 * p.2) s) := by
    intro l
    induction l with
    | nil => intro A s hs _; rw [List.foldl_nil, List.length_nil, Nat.zero_mul]; exact hs
    | cons p l ih =>
      intro A s hs hl
      have hp := hl p List.mem_cons_self
      have := ih (A + M * 1) _ (hs.add (hp.1.mul hp.2)) fun q hq => hl q (List.mem_cons_of_mem _ hq)
      rw [List.foldl_cons]
      refine this.mono ?_
      rw [List.length_cons, Nat.add_mul]
      omega
  have := key (r.zip c) 0 0 (Q.zero (Nat.mul_ne_zero hd hS)) fun p hp => ⟨hr _ (List.of_mem_zip hp).1, hc _ (List.of_mem_zip hp).2⟩
  unfold dotR
  refine this.mono ?_
  rw [Nat.zero_add]
  refine Nat.mul_le_mul_right M ?_
  rw [List.length_zip]
  exact Nat.min_le_left _ _
theorem foldl_zero : ∀ {c : List Rat}, (∀ y ∈ c, y = 0) → c.foldl (fun s x => s + x) 0 = 0
  | [], _ => rfl
  | y :: c, h => by
    rw [List.foldl_cons, h y List.mem_cons_self, Rat.add_zero]
    exact foldl_zero fun z hz => h z (List.mem_cons_of_mem _ hz)
theorem plcs_ne {n S : Nat} {c : List Rat} (k : CQ n S c) : plcs c ≠ [] := fun z => by
  have all : ∀ y ∈ c, y = 0 := fun y hy => by
    obtain ⟨i, hi, rfl⟩ := List.mem_iff_getElem.mp hy
    have g : c.getD i 0 = c[i] := by rw [List.getD_eq_getElem?_getD, List.getElem?_eq_getElem hi] <;> rfl
    have nm : i ∉ plcs c := by rw [z]; simp
    unfold plcs at nm
    rw [List.mem_filter, List.mem_range, decide_eq_true_eq, g] at nm
    obtain ⟨v, hv, l, e⟩ := k.row _ hy
    have p := num_mk (v := v) k.s0
    rw [← e] at p
    exact Rat.num_eq_zero.1 (by omega)
  have s := k.sum
  unfold sumR at s
  rw [foldl_zero all] at s
  exact absurd s (by decide)
theorem inv_part {v S : Nat} (hv : v ∈ partL) (h0 : v ≠ 0) : Q 510 S (mkRat (v : Nat) S)⁻¹ := by
  have e : (mkRat (v : Nat) S)⁻¹ = mkRat (S : Nat) v := by rw [← Rat.divInt_ofNat, Rat.inv_divInt, Rat.divInt_ofNat]
  rw [e]
  have q : Q v S (mkRat (S : Nat) v) := ⟨h0, S, rfl, by rw [Int.natAbs_natCast]; exact Nat.le_mul_of_pos_right S (by omega)⟩
  have all : ∀ v ∈ partL, v ≠ 0 → 510 / v * v = 510 ∧ 510 / v ≠ 0 := by decide
  obtain ⟨a, b⟩ := all v hv h0
  have := q.up b
  rw [a] at this
  exact this
/-- an entry moved so that a row pays as much as another one -/
def tieR (P : List (List Rat)) (c : List Rat) (a b s : Nat) : List Rat := (nth P b).set s ((nth P b).getD s 0 + (dotR (nth P a) c - dotR (nth P b) c) / c.getD s 0)
theorem tie_Q {B n m S a b s : Nat} {P : List (List Rat)} {c : List Rat} (q : QB B n m P) (k : CQ n S c) (hn : n ≤ 4) (ha : a < m) (hb : b < m) (hs : s < n) (h0 : 0 < (c.getD s 0).num) : QB (B + 16) n m (P.set b (tieR P c a b s)) := by
  obtain ⟨d, M, hd, hM, d0, qp⟩ := q
  have pl := qp.len
  have at_ : ∀ a, a < m → nth P a ∈ P := fun a ha => by
    have : nth P a = P[a]'(by omega) := nth_at (List.getElem?_eq_getElem (by omega))
    rw [this]
    exact List.getElem_mem _
  have ra := qp.row _ (at_ a ha)
  have rb := qp.row _ (at_ b hb)
  have cs : c.getD s 0 ∈ c := by
    have hs2 : s < c.length := by rw [k.len]; exact hs
    have : c.getD s 0 = c[s] := by rw [List.getD_eq_getElem?_getD, List.getElem?_eq_getElem hs2] <;> rfl
    rw [this]
    exact List.getElem_mem _
  have bs : (nth P b).getD s 0 ∈ nth P b := by
    have hs2 : s < (nth P b).length := by rw [rb.1]; exact hs
    have : (nth P b).getD s 0 = (nth P b)[s] := by rw [List.getD_eq_getElem?_getD, List.getElem?_eq_getElem hs2] <;> rfl
    rw [this]
    exact List.getElem_mem _
  obtain ⟨v, hv, vl, e⟩ := k.row _ cs
  have v0 : v ≠ 0 := by
    rintro rfl
    rw [e] at h0
    simp at h0
  have s1 := k.s1
  have s0 := k.s0
  have da := dot_Q d0 k.s0 ra.2 k.q
  have db := dot_Q d0 k.s0 rb.2 k.q
  have dv : Q (d * S * 510) ((n * M + n * M) * S) ((dotR (nth P a) c - dotR (nth P b) c) / c.getD s 0) := by
    rw [Rat.div_def, e]
    rw [ra.1] at da
    rw [rb.1] at db
    exact (da.sub db).mul (inv_part hv v0)
  have e1 : S * 510 * d = d * S * 510 := by rw [Nat.mul_comm _ d, Nat.mul_assoc]
  have up : ∀ x, Q d M x → Q (d * S * 510) M x := fun x hx => by
    have := hx.up (e := S * 510) (by omega)
    rw [e1] at this
    exact this
  have B16 : 2 ^ (B + 16) = 2 ^ B * 65536 := Nat.pow_add 2 B 16
  have nM : n * M ≤ 4 * M := Nat.mul_le_mul_right M hn
  have big1 : (n * M + n * M) * S ≤ (8 * M) * 68 := Nat.mul_le_mul (by omega) s1
  have big2 : d * S ≤ d * 68 := Nat.mul_le_mul_left d s1
  refine ⟨d * S * 510, M + (n * M + n * M) * S, by omega, by omega, Nat.mul_ne_zero (Nat.mul_ne_zero d0 s0) (by decide), ⟨by rw [List.length_set]; exact pl, fun r hr => ?_⟩⟩
  rcases List.mem_or_eq_of_mem_set hr with t | t
  · exact ⟨(qp.row r t).1, fun x hx => (up x ((qp.row r t).2 x hx)).mono (by omega)⟩
  · subst t
    unfold tieR
    refine ⟨by rw [List.length_set]; exact rb.1, fun x hx => ?_⟩
    rcases List.mem_or_eq_of_mem_set hx with t | t
    · exact (up x (rb.2 x t)).mono (by omega)
    · subst t
      exact (up _ (rb.2 _ bs)).add dv
end Row
namespace Row
open PySem PySem.Spec PyProof.Rows L2 Ev
variable {N K : Nat} {h : AH}
theorem len_tab {P : List (List Rat)} : dBI h .len [tabD P] = some (.val (.int (P.length : Nat))) := by
  unfold tabD dBI dB1 seqOf
  simp only [List.length_map]
theorem nth_get {P : List (List Rat)} {a : Nat} (ha : a < P.length) : nth P a = P[a] := nth_at (List.getElem?_eq_getElem ha)
theorem ix_tab {P : List (List Rat)} {a : Nat} (ha : a < P.length) : dIx h (tabD P) (.int (a : Nat)) = some (rowD (nth P a)) := by
  unfold dIx tabD seqOf
  simp only [atI_n]
  rw [List.getElem?_map, List.getElem?_eq_getElem ha, nth_get ha] <;> rfl
theorem ix_row {r : List Rat} {a : Nat} (ha : a < r.length) : dIx h (rowD r) (.int (a : Nat)) = some (fr (r.getD a 0)) := by
  unfold dIx rowD seqOf
  simp only [atI_n, getD_fr ha]
theorem D_tied {i n0 n m B S : Nat} {w : Wl} {P : List (List Rat)} {c : List Rat} (hK : 4 ≤ K) (hN : 1000000 ≤ N) (hi : i < h.length) (ok : WOk n0 w) (hn0 : n0 ≤ 600000) (q : QB B n m P) (k : CQ n S c) (hB : B ≤ 400) (hn : n ≤ 4) (hm : 1 ≤ m) (hm5 : m ≤ 5) :
    ∃ (P' : List (List Rat)) (w' : Wl), cF tb N K "_law_tied" [.ref i, tabD P, rowD c] (h.set i (wD w)) = some (tabD P', h.set i (wD w')) ∧ QB (B + 16) n m P' ∧ WOk (n0 + 3) w' := by
  obtain ⟨j, rfl, hj⟩ := dep hK
  have hl : ∀ w1 w2 : Wl, (h.set i (wD w1)).length = (h.set i (wD w2)).length := fun _ _ => by rw [List.length_set, List.length_set]
  obtain ⟨a, w1, d1, a0, a1, k1⟩ := D_draw (N := N) (K := j) (h := h) (few := (m : Int)) (by omega) hi ok (by omega) (by omega)
  obtain ⟨b, w2, d2, b0, b1, k2⟩ := D_draw (N := N) (K := j) (h := h) (few := (m : Int)) (by omega) hi k1 (by omega) (by omega)
  obtain ⟨a, rfl⟩ : ∃ u : Nat, a = u := ⟨a.toNat, by omega⟩
  obtain ⟨b, rfl⟩ : ∃ u : Nat, b = u := ⟨b.toNat, by omega⟩
  have pl := q.len
  have la : a < P.length := by omega
  have lb : b < P.length := by omega
  have ln0 := len_tab (h := h.set i (wD w)) (P := P)
  have ln1 := len_tab (h := h.set i (wD w1)) (P := P)
  rw [pl] at ln0 ln1
  rw [call_at lk__law_tied (by rfl)]
  by_cases z : (a : Int) = b
  · exact ⟨P, w2, run_tiedA ln0 d1 ln1 d2 (by rw [decide_eq_true_eq]; exact z) (hl _ _), q.mono (by omega), k2.mono (by omega)⟩
  · have g := gn_plc (N := N) (j := j) (H := h.set i (wD w2)) (e0 := some (.ref i)) (e1 := some (tabD P)) (c := c) (e3 := none) (e4 := none) (e5 := none) (e6 := some (.int a)) (e7 := some (.int b)) (e8 := none) (by rw [k.len]; omega)
    obtain ⟨v, w3, d3, vm, k3⟩ := D_one (N := N) (K := j) (h := h) (x := .lst ((plcs c).map fun i => .int (i : Nat))) (.inr rfl) (by omega) hi k2 (by omega) (by
      intro e
      exact plcs_ne k (List.map_eq_nil_iff.1 e))
    obtain ⟨s, sm, rfl⟩ := List.mem_map.mp vm
    unfold plcs at sm
    rw [List.mem_filter, List.mem_range, decide_eq_true_eq] at sm
    obtain ⟨sn, spos⟩ := sm
    have sn2 : s < n := by rw [← k.len]; exact sn
    have ma : nth P a ∈ P := by rw [nth_get la]; exact List.getElem_mem _
    have mb : nth P b ∈ P := by rw [nth_get lb]; exact List.getElem_mem _
    have ra := q.row _ ma
    have rb := q.row _ mb
    have sa := q.sz hB _ ma
    have sb := q.sz hB _ mb
    have sc : ∀ x ∈ c, Sz 900 x := fun x hx => (k.sz x hx).mono (by decide)
    have e1 := l_dot (N := N) (h := h.set i (wD w3)) (K := j) hj hN sa sc (by omega)
    have e2 := l_dot (N := N) (h := h.set i (wD w3)) (K := j) hj hN sb sc (by omega)
    obtain ⟨d, M, hd, hM, dd0, qp⟩ := q
    have ms := k.s1
    have db : d * S ≤ 2 ^ (B + 7) := le_pow hd (by omega)
    have mb4 : n * M ≤ 2 ^ (2 + B) := le_pow (by omega) hM
    have qa := dot_Q dd0 k.s0 (qp.row _ ma).2 k.q
    have qb := dot_Q dd0 k.s0 (qp.row _ mb).2 k.q
    rw [ra] at qa
    rw [rb] at qb
    have za := qa.szB db mb4
    have zb := qb.szB db mb4
    have e3 := l_minus (N := N) (h := h.set i (wD w3)) (K := j) (by omega) hN (za.mono (by unfold med; omega)) (zb.mono (by unfold med; omega))
    have zd := za.sub zb
    have cm : c.getD s 0 ∈ c := by
      have : c.getD s 0 = c[s] := by rw [List.getD_eq_getElem?_getD, List.getElem?_eq_getElem sn] <;> rfl
      rw [this]
      exact List.getElem_mem _
    have e4 := l_over (N := N) (h := h.set i (wD w3)) (K := j) (by omega) hN (zd.mono (by unfold med; omega)) ((k.sz _ cm).mono (by decide)) spos
    have qB : QB B n m P := ⟨d, M, hd, hM, dd0, qp⟩
    have qt := tie_Q (a := a) (b := b) (s := s) qB k hn (by omega) (by omega) sn2 spos
    have bl : s < (nth P b).length := by omega
    have bm : (nth P b).getD s 0 ∈ nth P b := by
      have : (nth P b).getD s 0 = (nth P b)[s] := by rw [List.getD_eq_getElem?_getD, List.getElem?_eq_getElem bl] <;> rfl
      rw [this]
      exact List.getElem_mem _
    obtain ⟨v, hv, vl, ve⟩ := k.row _ cm
    have v0 : v ≠ 0 := by
      rintro rfl
      rw [ve] at spos
      simp at spos
    have zt : Sz (3 * B + 50) ((dotR (nth P a) c - dotR (nth P b) c) / c.getD s 0) := by
      rw [Rat.div_def, ve]
      have s7 : S ≤ 2 ^ 7 := by omega
      have := zd.mul ((inv_part hv v0).szB (a := 9) (b := 7) (by decide) s7)
      have q2 := ((qa.sub qb).mul (inv_part hv v0)).szB (a := B + 16) (b := 10 + B) (by
        have : 2 ^ (B + 16) = 2 ^ (B + 7) * 512 := by rw [show B + 16 = B + 7 + 9 by omega, Nat.pow_add]
        omega) (by
        have : 2 ^ (10 + B) = (2 * 2 ^ (2 + B)) * 128 := by rw [show 10 + B = (2 + B) + 8 by omega, Nat.pow_add _ (2 + B) 8, Nat.mul_comm 2, Nat.mul_assoc]
        rw [this]
        exact Nat.mul_le_mul (by omega) (by omega))
      exact q2.mono (by omega)
    have e5 := l_plus (N := N) (h := h.set i (wD w3)) (K := j) (by omega) hN ((sb _ bm).mono (by decide)) (zt.mono (by unfold med; omega))
    refine ⟨_, w3, ?_, qt, k3⟩
    have hlb : ((nth P b).map fr).length ≤ 1000 := by rw [List.length_map]; omega
    have hlp : (P.map rowD).length ≤ 1000 := by rw [List.length_map]; omega
    have bl' : s < ((nth P b).map fr).length := by rw [List.length_map]; omega
    have lb' : b < (P.map rowD).length := by rw [List.length_map]; omega
    have j4 := cut_add2 (h := h.set i (wD w3)) (y := D.tup (((nth P b).map fr).set s (fr ((nth P b).getD s 0 + (dotR (nth P a) c - dotR (nth P b) c) / c.getD s 0)))) lb' hlp
    have last : D.tup ((P.map rowD).set b (D.tup (((nth P b).map fr).set s (fr ((nth P b).getD s 0 + (dotR (nth P a) c - dotR (nth P b) c) / c.getD s 0))))) = tabD (P.set b (tieR P c a b s)) := by
      unfold tabD tieR
      rw [List.map_set]
      unfold rowD
      rw [List.map_set]
    rw [last] at j4
    exact run_tiedB ln0 d1 ln1 d2 (by rw [decide_eq_false_iff_not]; exact z) g d3 (ix_tab la) (ix_tab lb) e1 e2 e3 (ix_row sn) e4 (ix_row bl) e5
      (cut_to (by omega)) (cut_add1 hlb) (cut_from bl') (cut_add2 bl' hlb) (cut_to (by omega)) (cut_add1 hlp) (cut_from lb') j4 (hl _ _)
end Row
namespace Row
open PySem PySem.Spec PyProof.Rows L2 Ev
variable {N K : Nat} {h : AH}
/-! ### a drawn world -/
section
variable {j n : Nat} {x nn mm p c d q r o z v : D} {way act s : Int} {l : List D} {e1 e2 e5 e8 : Option D} {H0 H1 H2 H3 H4 H5 : AH}
theorem step_tied (t : cF tb N j "_law_tied" [x, p, c] H0 = some (q, H1)) :
    bodyF (cF tb N j) N (.name 1) b__law_world_2 d [some x, e1, e2, some nn, some mm, some p, some c, some r, e8] H0 = some (.nx [some x, some d, e2, some nn, some mm, some q, some c, some r, e8] H1) := by
  simp only [bodyF, b__law_world_2, dSs, dS_expr, dS_ret, dS_retN, dS_asg, dS_par, dS_aug, dS_ite, dS_for, dS_wh, dS_pass, dS_brk, dS_cnt, dP, dPs, dI, dG, dGs, dB, cSeq, cRet, cExpr, cAsg, cPar, setAll, cAug, augI, cIte, aVar, aC, tst, aTup, aLst, aBin, aNeg, aCmp, aChain, aNot, aIte, aIx, aO, aSl, dCut, aCall, aCallk, aBi, aMeth, aFin, aEl, aOT, aSeq, aRange1_eq, aEnum, aZip, wipeE, List.foldl_cons, List.foldl_nil, aCons, aStar, aAndV, aOrV, aAnd, aOr, aNotT, gNm, gTp, gNl, gCn, Rz.fin, truth, dc_eq_int, dc_ne_int, dc_eq_fr, dc_eq_str, dc_ne_str, dc_lt, dc_le, dc_gt, dc_ge, dc_is, dc_isn, dBin, List.getElem?_cons_zero, List.getElem?_cons_succ, List.set_cons_zero, List.set_cons_succ, List.map_cons, List.map_nil, List.length_cons, List.length_nil, List.replicate, List.cons_append, List.nil_append, List.append_nil, Nat.reduceAdd, Nat.reduceSub, Nat.sub_self, Nat.reduceLeDiff, if_true, if_false, Bool.false_eq_true, reduceIte, Int.cast_ofNat_Int, eq_self, decide_true, decide_false, Bool.not_true, Bool.not_false, Bool.and_self, Bool.and_true, Bool.true_and, Bool.and_false, Bool.false_and, Bool.or_false, Bool.false_or, Bool.or_true, Bool.true_or, isi1, isi2, isi3, isi4, isi5, isi6, ok_int, deq_int, view_int, view_fr, view_str, ok_fr, eq_fr, view_tup, view_lst, ty_fr, tyN, List.any_cons, List.any_nil, atI_0, atI_1, atI_2, atI_3, atI_n, most, runB_rt, runB_nx, fin_same, t]
theorem step_w0 (c1 : cF tb N j "_law_draw" [x, .int 3] H0 = some (.int way, H1)) (k0 : decide (way = 0) = true) (k1 : decide (way = 1) = false) (c2 : cF tb N j "_law_number" [x] H1 = some (q, H2)) (ml : dBin H2 .mul (.lst [q]) nn = some (.new l)) (tu : dBI H2 .tuple [.lst l] = some (.val o)) (m : dMeth H2 .append (.ref n) [o] = some (z, H3)) :
    bodyF (cF tb N j) N (.name 2) b__law_world_1 (.int act) [some x, e1, e2, some nn, some mm, e5, some c, some (.ref n), e8] H0 = some (.nx [some x, e1, some (.int act), some nn, some mm, e5, some c, some (.ref n), some (.int way)] H3) := by
  simp only [bodyF, b__law_world_1, dSs, dS_expr, dS_ret, dS_retN, dS_asg, dS_par, dS_aug, dS_ite, dS_for, dS_wh, dS_pass, dS_brk, dS_cnt, dP, dPs, dI, dG, dGs, dB, cSeq, cRet, cExpr, cAsg, cPar, setAll, cAug, augI, cIte, aVar, aC, tst, aTup, aLst, aBin, aNeg, aCmp, aChain, aNot, aIte, aIx, aO, aSl, dCut, aCall, aCallk, aBi, aMeth, aFin, aEl, aOT, aSeq, aRange1_eq, aEnum, aZip, wipeE, List.foldl_cons, List.foldl_nil, aCons, aStar, aAndV, aOrV, aAnd, aOr, aNotT, gNm, gTp, gNl, gCn, Rz.fin, truth, dc_eq_int, dc_ne_int, dc_eq_fr, dc_eq_str, dc_ne_str, dc_lt, dc_le, dc_gt, dc_ge, dc_is, dc_isn, List.getElem?_cons_zero, List.getElem?_cons_succ, List.set_cons_zero, List.set_cons_succ, List.map_cons, List.map_nil, List.length_cons, List.length_nil, List.replicate, List.cons_append, List.nil_append, List.append_nil, Nat.reduceAdd, Nat.reduceSub, Nat.sub_self, Nat.reduceLeDiff, if_true, if_false, Bool.false_eq_true, reduceIte, Int.cast_ofNat_Int, eq_self, decide_true, decide_false, Bool.not_true, Bool.not_false, Bool.and_self, Bool.and_true, Bool.true_and, Bool.and_false, Bool.false_and, Bool.or_false, Bool.false_or, Bool.or_true, Bool.true_or, isi1, isi2, isi3, isi4, isi5, isi6, ok_int, deq_int, view_int, view_fr, view_str, ok_fr, eq_fr, view_tup, view_lst, ty_fr, tyN, List.any_cons, List.any_nil, atI_0, atI_1, atI_2, atI_3, atI_n, most, runB_rt, runB_nx, fin_same, c1, k0, k1, c2, ml, tu, m]
theorem step_w1 (c1 : cF tb N j "_law_draw" [x, .int 3] H0 = some (.int way, H1)) (k0 : decide (way = 0) = false) (k1 : decide (way = 1) = false) (c2 : cF tb N j "_law_row" [x, nn] H1 = some (q, H2)) (tu : dBI H2 .tuple [q] = some (.val o)) (m : dMeth H2 .append (.ref n) [o] = some (z, H3)) :
    bodyF (cF tb N j) N (.name 2) b__law_world_1 (.int act) [some x, e1, e2, some nn, some mm, e5, some c, some (.ref n), e8] H0 = some (.nx [some x, e1, some (.int act), some nn, some mm, e5, some c, some (.ref n), some (.int way)] H3) := by
  simp only [bodyF, b__law_world_1, dSs, dS_expr, dS_ret, dS_retN, dS_asg, dS_par, dS_aug, dS_ite, dS_for, dS_wh, dS_pass, dS_brk, dS_cnt, dP, dPs, dI, dG, dGs, dB, cSeq, cRet, cExpr, cAsg, cPar, setAll, cAug, augI, cIte, aVar, aC, tst, aTup, aLst, aBin, aNeg, aCmp, aChain, aNot, aIte, aIx, aO, aSl, dCut, aCall, aCallk, aBi, aMeth, aFin, aEl, aOT, aSeq, aRange1_eq, aEnum, aZip, wipeE, List.foldl_cons, List.foldl_nil, aCons, aStar, aAndV, aOrV, aAnd, aOr, aNotT, gNm, gTp, gNl, gCn, Rz.fin, truth, dc_eq_int, dc_ne_int, dc_eq_fr, dc_eq_str, dc_ne_str, dc_lt, dc_le, dc_gt, dc_ge, dc_is, dc_isn, List.getElem?_cons_zero, List.getElem?_cons_succ, List.set_cons_zero, List.set_cons_succ, List.map_cons, List.map_nil, List.length_cons, List.length_nil, List.replicate, List.cons_append, List.nil_append, List.append_nil, Nat.reduceAdd, Nat.reduceSub, Nat.sub_self, Nat.reduceLeDiff, if_true, if_false, Bool.false_eq_true, reduceIte, Int.cast_ofNat_Int, eq_self, decide_true, decide_false, Bool.not_true, Bool.not_false, Bool.and_self, Bool.and_true, Bool.true_and, Bool.and_false, Bool.false_and, Bool.or_false, Bool.false_or, Bool.or_true, Bool.true_or, isi1, isi2, isi3, isi4, isi5, isi6, ok_int, deq_int, view_int, view_fr, view_str, ok_fr, eq_fr, view_tup, view_lst, ty_fr, tyN, List.any_cons, List.any_nil, atI_0, atI_1, atI_2, atI_3, atI_n, most, runB_rt, runB_nx, fin_same, c1, k0, k1, c2, tu, m]
theorem step_w1' (c1 : cF tb N j "_law_draw" [x, .int 3] H0 = some (.int way, H1)) (k0 : decide (way = 0) = false) (k1 : decide (way = 1) = true) (kp : decide (0 < act) = false) (c2 : cF tb N j "_law_row" [x, nn] H1 = some (q, H2)) (tu : dBI H2 .tuple [q] = some (.val o)) (m : dMeth H2 .append (.ref n) [o] = some (z, H3)) :
    bodyF (cF tb N j) N (.name 2) b__law_world_1 (.int act) [some x, e1, e2, some nn, some mm, e5, some c, some (.ref n), e8] H0 = some (.nx [some x, e1, some (.int act), some nn, some mm, e5, some c, some (.ref n), some (.int way)] H3) := by
  simp only [bodyF, b__law_world_1, dSs, dS_expr, dS_ret, dS_retN, dS_asg, dS_par, dS_aug, dS_ite, dS_for, dS_wh, dS_pass, dS_brk, dS_cnt, dP, dPs, dI, dG, dGs, dB, cSeq, cRet, cExpr, cAsg, cPar, setAll, cAug, augI, cIte, aVar, aC, tst, aTup, aLst, aBin, aNeg, aCmp, aChain, aNot, aIte, aIx, aO, aSl, dCut, aCall, aCallk, aBi, aMeth, aFin, aEl, aOT, aSeq, aRange1_eq, aEnum, aZip, wipeE, List.foldl_cons, List.foldl_nil, aCons, aStar, aAndV, aOrV, aAnd, aOr, aNotT, gNm, gTp, gNl, gCn, Rz.fin, truth, dc_eq_int, dc_ne_int, dc_eq_fr, dc_eq_str, dc_ne_str, dc_lt, dc_le, dc_gt, dc_ge, dc_is, dc_isn, List.getElem?_cons_zero, List.getElem?_cons_succ, List.set_cons_zero, List.set_cons_succ, List.map_cons, List.map_nil, List.length_cons, List.length_nil, List.replicate, List.cons_append, List.nil_append, List.append_nil, Nat.reduceAdd, Nat.reduceSub, Nat.sub_self, Nat.reduceLeDiff, if_true, if_false, Bool.false_eq_true, reduceIte, Int.cast_ofNat_Int, eq_self, decide_true, decide_false, Bool.not_true, Bool.not_false, Bool.and_self, Bool.and_true, Bool.true_and, Bool.and_false, Bool.false_and, Bool.or_false, Bool.false_or, Bool.or_true, Bool.true_or, isi1, isi2, isi3, isi4, isi5, isi6, ok_int, deq_int, view_int, view_fr, view_str, ok_fr, eq_fr, view_tup, view_lst, ty_fr, tyN, List.any_cons, List.any_nil, atI_0, atI_1, atI_2, atI_3, atI_n, most, runB_rt, runB_nx, fin_same, c1, k0, k1, kp, c2, tu, m]
theorem step_w2 (c1 : cF tb N j "_law_draw" [x, .int 3] H0 = some (.int way, H1)) (k0 : decide (way = 0) = false) (k1 : decide (way = 1) = true) (kp : decide (0 < act) = true) (c2 : cF tb N j "_law_row" [x, nn] H1 = some (q, H2)) (tu : dBI H2 .tuple [q] = some (.val o)) (m : dMeth H2 .append (.ref n) [o] = some (z, H3))
    (c3 : cF tb N j "_law_draw" [x, .int act] H3 = some (.int s, H4)) (ix : dIx H4 (.ref n) (.int s) = some v) (pt : putD H4 n act v = some H5) :
    bodyF (cF tb N j) N (.name 2) b__law_world_1 (.int act) [some x, e1, e2, some nn, some mm, e5, some c, some (.ref n), e8] H0 = some (.nx [some x, e1, some (.int act), some nn, some mm, e5, some c, some (.ref n), some (.int way)] H5) := by
  simp only [bodyF, b__law_world_1, dSs, dS_expr, dS_ret, dS_retN, dS_asg, dS_par, dS_aug, dS_ite, dS_for, dS_wh, dS_pass, dS_brk, dS_cnt, dP, dPs, dI, dG, dGs, dB, cSeq, cRet, cExpr, cAsg, cPar, setAll, cAug, augI, cIte, aVar, aC, tst, aTup, aLst, aBin, aNeg, aCmp, aChain, aNot, aIte, aIx, aO, aSl, dCut, aCall, aCallk, aBi, aMeth, aFin, aEl, aOT, aSeq, aRange1_eq, aEnum, aZip, wipeE, List.foldl_cons, List.foldl_nil, aCons, aStar, aAndV, aOrV, aAnd, aOr, aNotT, gNm, gTp, gNl, gCn, Rz.fin, truth, dc_eq_int, dc_ne_int, dc_eq_fr, dc_eq_str, dc_ne_str, dc_lt, dc_le, dc_gt, dc_ge, dc_is, dc_isn, List.getElem?_cons_zero, List.getElem?_cons_succ, List.set_cons_zero, List.set_cons_succ, List.map_cons, List.map_nil, List.length_cons, List.length_nil, List.replicate, List.cons_append, List.nil_append, List.append_nil, Nat.reduceAdd, Nat.reduceSub, Nat.sub_self, Nat.reduceLeDiff, if_true, if_false, Bool.false_eq_true, reduceIte, Int.cast_ofNat_Int, eq_self, decide_true, decide_false, Bool.not_true, Bool.not_false, Bool.and_self, Bool.and_true, Bool.true_and, Bool.and_false, Bool.false_and, Bool.or_false, Bool.false_or, Bool.or_true, Bool.true_or, isi1, isi2, isi3, isi4, isi5, isi6, ok_int, deq_int, view_int, view_fr, view_str, ok_fr, eq_fr, view_tup, view_lst, ty_fr, tyN, List.any_cons, List.any_nil, atI_0, atI_1, atI_2, atI_3, atI_n, most, runB_rt, runB_nx, fin_same, gSb_eq, c1, k0, k1, kp, c2, tu, m, c3, ix, pt]
end
section
variable {j : Nat} {x p0 c0 p1 ws o : D} {n m t : Int} {l1 l2 : List D} {z1 z2 z8 : Option D} {H0 H1 H2 H3 H4 H5 H6 H7 : AH}
theorem run_world (s : cF tb N j "_law_sizes" [x] H0 = some (.tup [.int n, .int m], H1)) (p : cF tb N j "_law_pays" [x, .int n, .int m] H1 = some (p0, H2)) (c : cF tb N j "_law_chance" [x, .int n] H2 = some (c0, H3))
    (dr : cF tb N j "_law_draw" [x, .int 3] (H3 ++ [.lst []]) = some (.int t, H4)) (rn : rng1 t H4 = some (l1, none, H4))
    (lp : forL none (bodyF (cF tb N j) N (.name 1) b__law_world_2) l1 [some x, none, none, some (.int n), some (.int m), some p0, some c0, some (.ref H3.length), none] H4 = some (.nx [some x, z1, none, some (.int n), some (.int m), some p1, some c0, some (.ref H3.length), none] H5))
    (rn2 : rng1 m H5 = some (l2, none, H5))
    (lp2 : forL none (bodyF (cF tb N j) N (.name 2) b__law_world_1) l2 [some x, z1, none, some (.int n), some (.int m), some p1, some c0, some (.ref H3.length), none] H5 = some (.nx [some x, z1, z2, some (.int n), some (.int m), some p1, some c0, some (.ref H3.length), z8] H6))
    (tu : dBI H6 .tuple [.ref H3.length] = some (.val ws)) (fn : fin false H0 H6 (.tup [.tup [p1, ws], c0]) = some (o, H7)) :
    runB false (dSs (cF tb N j) N b__law_world ([x].map some ++ List.replicate (9 - [x].length) none) H0) H0 = some (o, H7) := by
  simp only [b__law_world, dSs, dS_expr, dS_ret, dS_retN, dS_asg, dS_par, dS_aug, dS_ite, dS_for, dS_wh, dS_pass, dS_brk, dS_cnt, dP, dPs, dI, dG, dGs, dB, cSeq, cRet, cExpr, cAsg, cPar, setAll, cAug, augI, cIte, aVar, aC, tst, aTup, aLst, aBin, aNeg, aCmp, aChain, aNot, aIte, aIx, aO, aSl, dCut, aCall, aCallk, aBi, aMeth, aFin, aEl, aOT, aSeq, aRange1_eq, aEnum, aZip, wipeE, List.foldl_cons, List.foldl_nil, aCons, aStar, aAndV, aOrV, aAnd, aOr, aNotT, gNm, gTp, gNl, gCn, Rz.fin, truth, dc_eq_int, dc_ne_int, dc_eq_fr, dc_eq_str, dc_ne_str, dc_lt, dc_le, dc_gt, dc_ge, dc_is, dc_isn, List.getElem?_cons_zero, List.getElem?_cons_succ, List.set_cons_zero, List.set_cons_succ, List.map_cons, List.map_nil, List.length_cons, List.length_nil, List.replicate, List.cons_append, List.nil_append, List.append_nil, Nat.reduceAdd, Nat.reduceSub, Nat.sub_self, Nat.reduceLeDiff, if_true, if_false, Bool.false_eq_true, reduceIte, Int.cast_ofNat_Int, eq_self, decide_true, decide_false, Bool.not_true, Bool.not_false, Bool.and_self, Bool.and_true, Bool.true_and, Bool.and_false, Bool.false_and, Bool.or_false, Bool.false_or, Bool.or_true, Bool.true_or, isi1, isi2, isi3, isi4, isi5, isi6, ok_int, deq_int, view_int, view_fr, view_str, ok_fr, eq_fr, view_tup, view_lst, ty_fr, tyN, List.any_cons, List.any_nil, atI_0, atI_1, atI_2, atI_3, atI_n, most, runB_rt, runB_nx, fin_same, List.zip_cons_cons, List.zip_nil_left, List.zip_nil_right, s, p, c, dr, rn, lp, rn2, lp2, tu, fn]
end
end Row
namespace Row
open PySem PySem.Spec PyProof.Rows L2 Ev
variable {N K : Nat} {h : AH}
theorem loop_tied {j i n0 n m B S t : Nat} {w : Wl} {P : List (List Rat)} {c : List Rat} (hj : 4 ≤ j) (hN : 1000000 ≤ N) (hi : i < h.length) (ok : WOk n0 w) (hn0 : n0 ≤ 590000) (q : QB B n m P) (k : CQ n S c) (hB : B ≤ 300) (hn : n ≤ 4) (hm : 1 ≤ m) (hm5 : m ≤ 5) (ht : t ≤ 2) :
    ∃ (P' : List (List Rat)) (w' : Wl) (z1 : Option D), forL none (bodyF (cF tb N j) N (.name 1) b__law_world_2) ((List.range t).map fun i => .int (i : Nat)) [some (.ref i), none, none, some (.int n), some (.int m), some (tabD P), some (rowD c), some (.ref h.length), none] (h.set i (wD w) ++ [.lst []])
      = some (.nx [some (.ref i), z1, none, some (.int n), some (.int m), some (tabD P'), some (rowD c), some (.ref h.length), none] (h.set i (wD w') ++ [.lst []])) ∧ QB (B + 16 * t) n m P' ∧ WOk (n0 + 3 * t) w' := by
  obtain ⟨e', H', lp, P', w', z1, qp, rfl, rfl, k'⟩ := forL_inv (f := bodyF (cF tb N j) N (.name 1) b__law_world_2)
    (fun pre e H => ∃ (P : List (List Rat)) (w' : Wl) (z1 : Option D), QB (B + 16 * pre.length) n m P ∧ e = [some (.ref i), z1, none, some (.int n), some (.int m), some (tabD P), some (rowD c), some (.ref h.length), none] ∧ H = h.set i (wD w') ++ [.lst []] ∧ WOk (n0 + 3 * pre.length) w')
    (ds := (List.range t).map fun i => .int (i : Nat)) [] (e := [some (.ref i), none, none, some (.int n), some (.int m), some (tabD P), some (rowD c), some (.ref h.length), none]) (h := h.set i (wD w) ++ [.lst []])
    ⟨P, w, none, q, rfl, rfl, ok⟩ fun a d pb e H eq ih => by
      obtain ⟨P, w1, z1, qp, rfl, rfl, k1⟩ := ih
      have len : a.length + (pb.length + 1) = t := by
        have := congrArg List.length eq
        simpa using this
      have hi2 : i < (h ++ [AO.lst []]).length := by rw [List.length_append]; omega
      obtain ⟨P2, w2, c1, q2, k2⟩ := D_tied (N := N) (K := j) (h := h ++ [AO.lst []]) hj hN hi2 k1 (by omega) qp k (by omega) hn hm hm5
      rw [← set_app hi, ← set_app hi] at c1
      refine ⟨_, _, .inl (step_tied c1), P2, w2, some d, ?_, rfl, rfl, k2.mono ?_⟩
      · refine q2.mono ?_
        rw [List.length_append, List.length_cons, List.length_nil]
        omega
      · rw [List.length_append, List.length_cons, List.length_nil]
        omega
  simp only [List.nil_append, List.length_map, List.length_range] at qp k'
  exact ⟨P', w', z1, lp, qp, k'⟩
theorem rep_mul {q : D} {n : Nat} (hn : n ≤ 1000) : dBin h .mul (.lst [q]) (.int n) = some (.new (List.replicate n q)) := by
  unfold dBin
  simp only
  rw [if_pos ⟨by simp, by omega, by omega⟩]
  congr
  rw [Int.toNat_natCast]
  induction n with
  | zero => rfl
  | succ n ih => rw [List.replicate_succ, List.flatten_cons, ih (by omega), List.replicate_succ] <;> rfl
theorem loop_worths {j i n0 n m : Nat} {w : Wl} {z1 e5 : Option D} {c : D} (hj : 3 ≤ j) (hN : 1000000 ≤ N) (hi : i < h.length) (ok : WOk n0 w) (hn0 : n0 ≤ 590000) (hn : n ≤ 4) (hm5 : m ≤ 5) :
    ∃ (W : List (List Rat)) (w' : Wl) (z2 z8 : Option D), forL none (bodyF (cF tb N j) N (.name 2) b__law_world_1) ((List.range m).map fun i => .int (i : Nat)) [some (.ref i), z1, none, some (.int n), some (.int m), e5, some c, some (.ref h.length), none] (h.set i (wD w) ++ [.lst []])
      = some (.nx [some (.ref i), z1, z2, some (.int n), some (.int m), e5, some c, some (.ref h.length), z8] (h.set i (wD w') ++ [.lst (W.map rowD)])) ∧ QP n m L60 M0 W ∧ WOk (n0 + 20 * m) w' := by
  obtain ⟨e', H', lp, W', w', z2, z8, qp, rfl, rfl, k'⟩ := forL_inv (f := bodyF (cF tb N j) N (.name 2) b__law_world_1)
    (fun pre e H => ∃ (W : List (List Rat)) (w' : Wl) (z2 z8 : Option D), QP n pre.length L60 M0 W ∧ e = [some (.ref i), z1, z2, some (.int n), some (.int m), e5, some c, some (.ref h.length), z8] ∧ H = h.set i (wD w') ++ [.lst (W.map rowD)] ∧ WOk (n0 + 20 * pre.length) w')
    (ds := (List.range m).map fun i => .int (i : Nat)) [] (e := [some (.ref i), z1, none, some (.int n), some (.int m), e5, some c, some (.ref h.length), none]) (h := h.set i (wD w) ++ [.lst []])
    ⟨[], w, none, none, ⟨rfl, fun r hr => by cases hr⟩, rfl, rfl, ok⟩ fun a d pb e H eq ih => by
      obtain ⟨W, w1, z2, z8, qp, rfl, rfl, k1⟩ := ih
      have len : a.length + (pb.length + 1) = m := by
        have := congrArg List.length eq
        simpa using this
      have dm : d = .int (a.length : Nat) := by
        have e1 := congrArg (fun l => l[a.length]?) eq
        simp only [List.nil_append, List.getElem?_append_right (Nat.le_refl _), Nat.sub_self, List.getElem?_cons_zero, List.getElem?_map] at e1
        rw [List.getElem?_range (by omega)] at e1
        exact Option.some.inj e1
      subst dm
      have wl := qp.len
      have wl2 : (W.map rowD).length < 1000000 := by rw [List.length_map]; omega
      have hi2 : i < (h ++ [AO.lst (W.map rowD)]).length := by rw [List.length_append]; omega
      have done : ∀ r : List Rat, r.length = n → (∀ x ∈ r, Q L60 M0 x) → QP n (a ++ [D.int (a.length : Nat)]).length L60 M0 (W ++ [r]) := fun r r1 r2 => by
        refine ⟨by rw [List.length_append, List.length_append, wl] <;> rfl, fun s hs => ?_⟩
        rcases List.mem_append.mp hs with t | t
        · exact qp.row s t
        · rw [List.mem_singleton] at t; subst t; exact ⟨r1, r2⟩
      have more : ∀ r : List Rat, W.map rowD ++ [rowD r] = (W ++ [r]).map rowD := fun r => by rw [List.map_append] <;> rfl
      have al : (a ++ [D.int (a.length : Nat)]).length = a.length + 1 := by rw [List.length_append] <;> rfl
      obtain ⟨way, w2, c1, v0, v1, k2⟩ := D_draw (N := N) (K := j) (h := h ++ [AO.lst (W.map rowD)]) (few := 3) (by omega) hi2 k1 (by omega) (by decide)
      by_cases y0 : way = 0
      · obtain ⟨q, w3, c2, qq, k3⟩ := D_number (N := N) (K := j) (h := h ++ [AO.lst (W.map rowD)]) (by omega) hN hi2 k2 (by omega)
        rw [← set_app hi, ← set_app hi] at c1 c2
        have m1 := meth_app (h := h) (w := w3) (xs := W.map rowD) (d := rowD (List.replicate n q)) hi wl2
        refine ⟨_, _, .inl (step_w0 c1 (by rw [decide_eq_true_eq]; exact y0) (by rw [decide_eq_false_iff_not]; omega) c2 (rep_mul (by omega)) (by unfold rowD; rw [List.map_replicate] <;> rfl) m1), W ++ [List.replicate n q], w3, _, _, done _ List.length_replicate (fun x hx => by rw [List.eq_of_mem_replicate hx]; exact qq), rfl, by rw [more], k3.mono (by rw [al]; omega)⟩
      · obtain ⟨qs, w3, c2, ql, qq, k3⟩ := D_row (N := N) (K := j) (h := h ++ [AO.lst (W.map rowD)]) (n := n) hj hN hi2 k2 (by omega) (by omega)
        rw [← set_app hi, ← set_app hi] at c1 c2
        have m1 := meth_app (h := h) (w := w3) (xs := W.map rowD) (d := rowD qs) hi wl2
        have f0 : decide (way = 0) = false := by rw [decide_eq_false_iff_not]; exact y0
        by_cases y1 : way = 1
        · have f1 : decide (way = 1) = true := by rw [decide_eq_true_eq]; exact y1
          by_cases ap : 0 < a.length
          · have hi3 : i < (h ++ [AO.lst ((W ++ [qs]).map rowD)]).length := by rw [List.length_append]; omega
            obtain ⟨s, w4, c3, s0, s1, k4⟩ := D_draw (N := N) (K := j) (h := h ++ [AO.lst ((W ++ [qs]).map rowD)]) (few := ((a.length : Nat) : Int)) (by omega) hi3 k3 (by omega) (by omega)
            rw [← set_app hi, ← set_app hi] at c3
            obtain ⟨s, rfl⟩ : ∃ u : Nat, s = u := ⟨s.toNat, by omega⟩
            rw [more] at m1
            have sl : s < (W ++ [qs]).length := by rw [List.length_append]; simp only [List.length_cons, List.length_nil]; omega
            have ix := ix_own (h := h) (i := i) (w := w4) (xs := (W ++ [qs]).map rowD) (a := s) (d := rowD (W ++ [qs])[s]) (by rw [List.getElem?_map, List.getElem?_eq_getElem sl] <;> rfl)
            have pt := put_own (h := h) (i := i) (w := w4) (xs := (W ++ [qs]).map rowD) (a := a.length) (d := rowD (W ++ [qs])[s]) (by rw [List.length_map, List.length_append]; simp only [List.length_cons, List.length_nil]; omega)
            rw [← List.map_set] at pt
            have dn := done qs ql qq
            refine ⟨_, _, .inl (step_w2 c1 f0 f1 (by rw [decide_eq_true_eq]; omega) c2 rfl m1 c3 ix pt), _, w4, _, _, ⟨by rw [List.length_set]; exact dn.len, fun r hr => ?_⟩, rfl, rfl, k4.mono (by rw [al]; omega)⟩
            rcases List.mem_or_eq_of_mem_set hr with t | t
            · exact dn.row r t
            · subst t; exact dn.row _ (List.getElem_mem _)
          · exact ⟨_, _, .inl (step_w1' c1 f0 f1 (by rw [decide_eq_false_iff_not]; omega) c2 rfl m1), W ++ [qs], w3, _, _, done qs ql qq, rfl, by rw [more], k3.mono (by rw [al]; omega)⟩
        · exact ⟨_, _, .inl (step_w1 c1 f0 (by rw [decide_eq_false_iff_not]; exact y1) c2 rfl m1), W ++ [qs], w3, _, _, done qs ql qq, rfl, by rw [more], k3.mono (by rw [al]; omega)⟩
  simp only [List.nil_append, List.length_map, List.length_range] at qp k'
  exact ⟨W', w', z2, z8, lp, qp, k'⟩
end Row
namespace Row
open PySem PySem.Spec PyProof.Rows L2 Ev
variable {N K : Nat} {h : AH}
theorem QP.b {n m d M B : Nat} {P : List (List Rat)} (q : QP n m d M P) (h1 : d ≤ 2 ^ B) (h2 : M ≤ 2 ^ B) (h0 : d ≠ 0) : QB B n m P := ⟨d, M, h1, h2, h0, q⟩
theorem ch_CQ {vs : List Nat} {n : Nat} (l : vs.length = n) (hn : n ≤ 4) (s0 : vs.sum ≠ 0) (hv : ∀ v ∈ vs, v ∈ partL) : CQ n vs.sum (chR vs) := by
  refine ⟨by unfold chR; rw [List.length_map]; exact l, s0, ?_, fun y hy => ?_, sum_ch s0⟩
  · have := sum_le hv
    omega
  · obtain ⟨v, hm, rfl⟩ := List.mem_map.mp hy
    exact ⟨v, hv v hm, mem_le_sum hm, rfl⟩
theorem freeze_row {n : Nat} {h' : AH} {r : List Rat} : freeze n h' (rowD r) = some (rowD r) := by unfold rowD; simp only [freeze, freezes_frs, Option.map_some]
theorem freeze_tab {n : Nat} {h' : AH} {P : List (List Rat)} : freeze n h' (tabD P) = some (tabD P) := by unfold tabD; simp only [freeze, freezes_rows, Option.map_some]
/-- what a world is -/
structure Wo (n m S : Nat) (P W : List (List Rat)) (c : List Rat) : Prop where
  n2 : 2 ≤ n
  n4 : n ≤ 4
  m1 : 1 ≤ m
  m5 : m ≤ 5
  p : QB 120 n m P
  w : QB 120 n m W
  c : CQ n S c
theorem D_world {i n0 : Nat} {w : Wl} (hK : 5 ≤ K) (hN : 1000000 ≤ N) (hi : i < h.length) (ok : WOk n0 w) (hn0 : n0 ≤ 300000) :
    ∃ (n m S : Nat) (P W : List (List Rat)) (c : List Rat) (w' : Wl), cF tb N K "_law_world" [.ref i] (h.set i (wD w)) = some (.tup [setD P W, rowD c], h.set i (wD w')) ∧ Wo n m S P W c ∧ WOk (n0 + 400) w' := by
  obtain ⟨j, rfl, hj⟩ := dep hK
  have hl : ∀ w : Wl, (h.set i (wD w)).length = h.length := fun _ => List.length_set
  obtain ⟨n, m, w1, c1, n2, n4, m1, m5, k1⟩ := D_sizes (N := N) (K := j) (h := h) (by omega) hi ok (by omega)
  obtain ⟨P, w2, c2, q2, k2⟩ := D_pays (N := N) (K := j) (h := h) hj hN hi k1 (by omega) n4 m1 m5
  obtain ⟨vs, w3, c3, vl, vs0, vm, k3⟩ := D_chance (N := N) (K := j) (h := h) (n := n) (by omega) hN hi k2 (by omega) (by omega) (by omega)
  have cq := ch_CQ vl n4 vs0 vm
  have hi2 : i < (h ++ [AO.lst []]).length := by rw [List.length_append]; omega
  obtain ⟨t, w4, c4, t0, t1, k4⟩ := D_draw (N := N) (K := j) (h := h ++ [AO.lst []]) (few := 3) (by omega) hi2 k3 (by omega) (by decide)
  rw [← set_app hi, ← set_app hi] at c4
  obtain ⟨t, rfl⟩ : ∃ u : Nat, t = u := ⟨t.toNat, by omega⟩
  have q0 : QB 88 n m P := q2.b (by decide +kernel) (by decide +kernel) (by decide +kernel)
  obtain ⟨P2, w5, z1, lp, q5, k5⟩ := loop_tied (N := N) (h := h) (j := j) (t := t) (w := w4) hj hN hi k4 (by omega) q0 cq (by omega) n4 m1 m5 (by omega)
  have rn := rng1_nat (h := h.set i (wD w4) ++ [AO.lst []]) (n := t) (by omega)
  obtain ⟨W, w6, z2, z8, lp2, q6, k6⟩ := loop_worths (N := N) (h := h) (j := j) (w := w5) (z1 := z1) (e5 := some (tabD P2)) (c := rowD (chR vs)) (n := n) (m := m) (by omega) hN hi k5 (by omega) n4 m5
  have rn2 := rng1_nat (h := h.set i (wD w5) ++ [AO.lst []]) (n := m) (by omega)
  have fn := fin_dropV (h := h) (i := i) (w := w) (w' := w6) (xs := W.map rowD) (v := .tup [.tup [tabD P2, tabD W], rowD (chR vs)]) (v' := .tup [.tup [tabD P2, tabD W], rowD (chR vs)]) hi (by simp only [freeze, freezes, freeze_tab, freeze_row, Option.map_some])
  have tu : dBI (h.set i (wD w6) ++ [AO.lst (W.map rowD)]) .tuple [.ref h.length] = some (.val (tabD W)) := by
    unfold dBI dB1 lstOf
    simp only [own_at]
    rfl
  refine ⟨n, m, vs.sum, P2, W, chR vs, w6, ?_, ⟨n2, n4, m1, m5, q5.mono (by omega), q6.b (by decide +kernel) (by decide +kernel) (by decide +kernel), cq⟩, k6.mono (by omega)⟩
  rw [call_at lk__law_world (by rfl)]
  have hr : (h.set i (wD w3)).length = h.length := hl w3
  rw [← hr] at lp lp2 tu
  exact run_world c1 c2 c3 c4 rn lp rn2 lp2 tu fn
end Row
namespace Row
open PySem PySem.Spec PyProof.Rows L2 Ev
variable {N K : Nat} {h : AH}
theorem mkTb {B n m : Nat} {P : List (List Rat)} (q : QB B n m P) (hB : B ≤ 400) : Tb n m P := ⟨q.len, fun r hr => ⟨q.row r hr, fun x hx => (q.sz hB r hr x hx).mono (by decide)⟩⟩
theorem mkVs {B n m : Nat} {P W : List (List Rat)} (p : QB B n m P) (w : QB B n m W) (hB : B ≤ 400) (n2 : 2 ≤ n) (n4 : n ≤ 4) (m1 : 1 ≤ m) (m5 : m ≤ 5) : Vs n m P W := ⟨mkTb p hB, mkTb w hB, m1, m5, n2, n4⟩
theorem sums_sz {B n m S : Nat} {P : List (List Rat)} {c : List Rat} (q : QB B n m P) (k : CQ n S c) (hB : B ≤ 400) (n4 : n ≤ 4) : ∀ y ∈ sums P c, Sz 1000 y := fun y hy => by
  obtain ⟨r, hr, rfl⟩ := List.mem_map.mp hy
  obtain ⟨d, M, hd, hM, d0, qp⟩ := q
  have s1 := k.s1
  have := dot_Q d0 k.s0 (qp.row r hr).2 k.q
  rw [(qp.row r hr).1] at this
  exact (this.szB (le_pow hd (show S ≤ 2 ^ 7 by omega)) (le_pow (show n ≤ 2 ^ 2 by omega) hM)).mono (by omega)
theorem mkWd {B n m S : Nat} {P W : List (List Rat)} {c : List Rat} (p : QB B n m P) (w : QB B n m W) (k : CQ n S c) (hB : B ≤ 400) (n2 : 2 ≤ n) (n4 : n ≤ 4) (m1 : 1 ≤ m) (m5 : m ≤ 5) : Wd n m P W c :=
  ⟨mkVs p w hB n2 n4 m1 m5, k.ch, p.sz hB, w.sz hB, fun x hx => (k.sz x hx).mono (by decide), sums_sz p k hB n4, sums_sz w k hB n4⟩
/-! ### the moved pays -/
def mvR (r R : List Rat) (by_ : Rat) : List Rat := (r.zip R).map fun z => (z.1 + z.2) * by_
theorem dot_fold (a b : List Rat) (s : Rat) : (a.zip b).foldl (fun s p => s + p.1 * p.2) s = s + dotR a b := by
  have key : ∀ (l : List (Rat × Rat)) (s t : Rat), l.foldl (fun s p => s + p.1 * p.2) (s + t) = s + l.foldl (fun s p => s + p.1 * p.2) t := by
    intro l
    induction l with
    | nil => intro s t; rfl
    | cons p l ih =>
      intro s t
      rw [List.foldl_cons, List.foldl_cons, Rat.add_assoc, ih]
  have := key (a.zip b) s 0
  rw [Rat.add_zero] at this
  exact this
theorem dot_cons (x y : Rat) (a b : List Rat) : dotR (x :: a) (y :: b) = x * y + dotR a b := by
  have := dot_fold a b (0 + x * y)
  unfold dotR
  rw [List.zip_cons_cons, List.foldl_cons]
  show (a.zip b).foldl (fun s p => s + p.1 * p.2) (0 + x * y) = _
  rw [this, Rat.zero_add] <;> rfl
theorem dot_mv {k : Rat} : ∀ {r R c : List Rat}, r.length = R.length → dotR (mvR r R k) c = (dotR r c + dotR R c) * k
  | [], [], c, _ => by unfold mvR dotR; simp only [List.zip_nil_left, List.map_nil, List.foldl_nil]; grind
  | x :: r, y :: R, [], _ => by unfold dotR; simp only [List.zip_nil_right, List.foldl_nil]; grind
  | x :: r, y :: R, z :: c, l => by
    have ih := dot_mv (k := k) (r := r) (R := R) (c := c) (by simpa using l)
    have e : mvR (x :: r) (y :: R) k = ((x + y) * k) :: mvR r R k := rfl
    rw [e, dot_cons, dot_cons, dot_cons, ih]
    grind
theorem mx_map {f : Rat → Rat} (mono : ∀ a b, a ≤ b → f a ≤ f b) {l : List Rat} (h0 : l ≠ []) : mx (l.map f) = f (mx l) := by
  have a : mx (l.map f) ∈ l.map f := mx_mem (by intro e; exact h0 (List.map_eq_nil_iff.1 e))
  obtain ⟨y, hy, e⟩ := List.mem_map.mp a
  have b := mono _ _ (mx_ge y hy)
  have c : f (mx l) ≤ mx (l.map f) := mx_ge _ (List.mem_map.mpr ⟨_, mx_mem h0, rfl⟩)
  rw [← e] at c ⊢
  exact Rat.le_antisymm b c
theorem best_map {f : Rat → Rat} (mono : ∀ a b, a ≤ b → f a ≤ f b) (inj : ∀ a b, f a = f b → a = b) (l : List Rat) : bestN (l.map f) = bestN l := by
  by_cases h0 : l = []
  · subst h0; rfl
  · rw [bestN_range, bestN_range, List.length_map]
    refine List.filter_congr fun i hi => ?_
    rw [List.mem_range] at hi
    have e : (l.map f).getD i 0 = f (l.getD i 0) := by
      rw [List.getD_eq_getElem?_getD, List.getD_eq_getElem?_getD, List.getElem?_map, List.getElem?_eq_getElem hi] <;> rfl
    rw [e, mx_map mono h0, Bool.eq_iff_iff, decide_eq_true_eq, decide_eq_true_eq]
    exact ⟨fun z => inj _ _ z, fun z => by rw [z]⟩
theorem sums_mv {n : Nat} {P : List (List Rat)} {R c : List Rat} {k : Rat} (hP : ∀ r ∈ P, r.length = n) (hR : R.length = n) : sums (P.map fun r => mvR r R k) c = (sums P c).map fun s => (s + dotR R c) * k := by
  unfold sums
  rw [List.map_map, List.map_map]
  refine List.map_congr_left fun r hr => ?_
  rw [Function.comp_apply, Function.comp_apply, dot_mv (by rw [hP r hr, hR])]
theorem best_mv {n : Nat} {P : List (List Rat)} {R c : List Rat} {k : Rat} (k0 : 0 < k) (hP : ∀ r ∈ P, r.length = n) (hR : R.length = n) : bestN (sums (P.map fun r => mvR r R k) c) = bestN (sums P c) := by
  rw [sums_mv hP hR]
  refine best_map (fun a b h => ?_) (fun a b h => ?_) _
  · exact Rat.mul_le_mul_of_nonneg_right (by grind) (Rat.le_of_lt k0)
  · have : (a + dotR R c) = (b + dotR R c) := by
      have z : k ≠ 0 := by intro e; subst e; exact Rat.lt_irrefl k0
      have h2 := congrArg (fun x => x * k⁻¹) h
      simp only [Rat.mul_assoc, Rat.mul_inv_cancel k z, Rat.mul_one] at h2
      exact h2
    grind
end Row
namespace Row
open PySem PySem.Spec PyProof.Rows L2 Ev
variable {N K : Nat} {h : AH}
theorem db_12 : dBin h .pow (.int 10) (.int 12) = some (.val (.int 1000000000000)) := by
  unfold dBin
  simp only
  rw [if_pos (by decide)] <;> rfl
def byL : List Rat := [1, 3, mkRat 1 2, mkRat 5 7, 1000000000000]
abbrev byD : D := .tup [.tup [.int 1, .int 1], .tup [.int 3, .int 1], .tup [.int 1, .int 2], .tup [.int 5, .int 7], .tup [.int 1000000000000, .int 1]]
theorem by_eq : byD = .tup (byL.map fr) := by
  have a : byL.map (fun q => (q.num, (q.den : Int))) = [(1, 1), (3, 1), (1, 2), (5, 7), (1000000000000, 1)] := by decide +kernel
  have b : byL.map fr = (byL.map fun q => (q.num, (q.den : Int))).map fun p => D.tup [.int p.1, .int p.2] := by rw [List.map_map] <;> rfl
  rw [b, a] <;> rfl
theorem by_pos : ∀ k ∈ byL, 0 < k ∧ Sz 41 k := by
  have d : ∀ k ∈ byL, 0 < k ∧ k.num.natAbs < 2 ^ 41 ∧ k.den < 2 ^ 41 := by decide +kernel
  exact fun k hk => ⟨(d k hk).1, (d k hk).2.1, (d k hk).2.2⟩
theorem turn_mv1 {j : Nat} {H : AH} {e0 e1 e2 e3 e5 e6 e7 : Option D} {x y r1 r2 k : D} (c1 : cF tb N j "_law_plus" [x, y] H = some (r1, H)) (c2 : cF tb N j "_law_times" [r1, k] H = some (r2, H)) :
    gnF (cF tb N j) g__law_moved_1 [e0, e1, e2, e3, some k, e5, e6, e7] (.tup [x, y]) H = some ([r2], H) := by
  simp only [gnF, g__law_moved_1, dSs, dS_expr, dS_ret, dS_retN, dS_asg, dS_par, dS_aug, dS_ite, dS_for, dS_wh, dS_pass, dS_brk, dS_cnt, dP, dPs, dI, dG, dGs, dB, cSeq, cRet, cExpr, cAsg, cPar, setAll, cAug, augI, cIte, aVar, aC, tst, aTup, aLst, aBin, aNeg, aCmp, aChain, aNot, aIte, aIx, aO, aSl, dCut, aCall, aCallk, aBi, aMeth, aFin, aEl, aOT, aSeq, aRange1_eq, aEnum, aZip, wipeE, List.foldl_cons, List.foldl_nil, aCons, aStar, aAndV, aOrV, aAnd, aOr, aNotT, gNm, gTp, gNl, gCn, Rz.fin, truth, dc_eq_int, dc_ne_int, dc_eq_fr, dc_eq_str, dc_ne_str, dc_lt, dc_le, dc_gt, dc_ge, dc_is, dc_isn, dBin, List.getElem?_cons_zero, List.getElem?_cons_succ, List.set_cons_zero, List.set_cons_succ, List.map_cons, List.map_nil, List.length_cons, List.length_nil, List.replicate, List.cons_append, List.nil_append, List.append_nil, Nat.reduceAdd, Nat.reduceSub, Nat.sub_self, Nat.reduceLeDiff, if_true, if_false, Bool.false_eq_true, reduceIte, Int.cast_ofNat_Int, eq_self, decide_true, decide_false, Bool.not_true, Bool.not_false, Bool.and_self, Bool.and_true, Bool.true_and, Bool.and_false, Bool.false_and, Bool.or_false, Bool.false_or, Bool.or_true, Bool.true_or, isi1, isi2, isi3, isi4, isi5, isi6, ok_int, deq_int, view_int, view_fr, view_str, ok_fr, eq_fr, view_tup, view_lst, ty_fr, tyN, List.any_cons, List.any_nil, atI_0, atI_1, atI_2, atI_3, atI_n, most, runB_rt, runB_nx, fin_same, c1, c2]
theorem gn_mv1 {j : Nat} {H : AH} {e0 e1 e2 e6 e7 : Option D} {r R : List Rat} {k : Rat} (hj : 2 ≤ j) (hN : 1000000 ≤ N) (hr : ∀ x ∈ r, Sz 900 x) (hR : ∀ x ∈ R, Sz 900 x) (hk : Sz 41 k) (hl : r.length ≤ 50) :
    dGn (cF tb N j) g__law_moved_1 [e0, e1, e2, some (.lst (R.map fr)), some (fr k), some (rowD r), e6, e7] H = some ((mvR r R k).map fr, H) := by
  refine gn_of (ds := zipD (r.map fr) (R.map fr)) (ck := none) (h1 := H) ?_ ?_
  · rw [gs__law_moved_1]
    simp only [dI, dP, aZip, aVar, List.getElem?_cons_zero, List.getElem?_cons_succ, zsrc, rowD]
  · rw [zipD_map]
    unfold mvR
    rw [List.map_map]
    refine lc_mapR _ _ (fun z hz => ?_) (by rw [List.length_zip]; unfold most; omega)
    have h1 := hr z.1 (List.of_mem_zip hz).1
    have h2 := hR z.2 (List.of_mem_zip hz).2
    have c1 := l_plus (N := N) (h := H) (K := j) hj hN (h1.mono (by decide)) (h2.mono (by decide))
    have c2 := l_times (N := N) (h := H) (K := j) hj hN ((h1.add h2).mono (by decide)) (hk.mono (by decide))
    rw [turn_mv1 c1 c2, Function.comp_apply]
theorem turn_mv2 {j : Nat} {H : AH} {e0 e1 e2 e5 e6 e7 : Option D} {r R k o : D} {l : List D} (q : dGn (cF tb N j) g__law_moved_1 [e0, e1, e2, some R, some k, some r, e6, e7] H = some (l, H)) (tu : dBI H .tuple [.lst l] = some (.val o)) :
    gnF (cF tb N j) g__law_moved_2 [e0, e1, e2, some R, some k, e5, e6, e7] r H = some ([o], H) := by
  simp only [gnF, g__law_moved_2, dSs, dS_expr, dS_ret, dS_retN, dS_asg, dS_par, dS_aug, dS_ite, dS_for, dS_wh, dS_pass, dS_brk, dS_cnt, dP, dPs, dI, dG, dGs, dB, cSeq, cRet, cExpr, cAsg, cPar, setAll, cAug, augI, cIte, aVar, aC, tst, aTup, aLst, aBin, aNeg, aCmp, aChain, aNot, aIte, aIx, aO, aSl, dCut, aCall, aCallk, aBi, aMeth, aFin, aEl, aOT, aSeq, aRange1_eq, aEnum, aZip, wipeE, List.foldl_cons, List.foldl_nil, aCons, aStar, aAndV, aOrV, aAnd, aOr, aNotT, gNm, gTp, gNl, gCn, Rz.fin, truth, dc_eq_int, dc_ne_int, dc_eq_fr, dc_eq_str, dc_ne_str, dc_lt, dc_le, dc_gt, dc_ge, dc_is, dc_isn, dBin, List.getElem?_cons_zero, List.getElem?_cons_succ, List.set_cons_zero, List.set_cons_succ, List.map_cons, List.map_nil, List.length_cons, List.length_nil, List.replicate, List.cons_append, List.nil_append, List.append_nil, Nat.reduceAdd, Nat.reduceSub, Nat.sub_self, Nat.reduceLeDiff, if_true, if_false, Bool.false_eq_true, reduceIte, Int.cast_ofNat_Int, eq_self, decide_true, decide_false, Bool.not_true, Bool.not_false, Bool.and_self, Bool.and_true, Bool.true_and, Bool.and_false, Bool.false_and, Bool.or_false, Bool.false_or, Bool.or_true, Bool.true_or, isi1, isi2, isi3, isi4, isi5, isi6, ok_int, deq_int, view_int, view_fr, view_str, ok_fr, eq_fr, view_tup, view_lst, ty_fr, tyN, List.any_cons, List.any_nil, atI_0, atI_1, atI_2, atI_3, atI_n, most, runB_rt, runB_nx, fin_same, q, tu]
theorem gn_mv2 {j n : Nat} {H : AH} {e0 e2 e5 e6 e7 : Option D} {wo : D} {P : List (List Rat)} {R : List Rat} {k : Rat} (hj : 2 ≤ j) (hN : 1000000 ≤ N) (ix : dIx H wo (.int 0) = some (tabD P)) (hp : ∀ r ∈ P, ∀ x ∈ r, Sz 900 x) (hl : ∀ r ∈ P, r.length = n) (hR : ∀ x ∈ R, Sz 900 x) (hk : Sz 41 k) (hn : n ≤ 50) (hm : P.length ≤ 50) :
    dGn (cF tb N j) g__law_moved_2 [e0, some wo, e2, some (.lst (R.map fr)), some (fr k), e5, e6, e7] H = some ((P.map fun r => mvR r R k).map rowD, H) := by
  refine gn_of (ds := P.map rowD) (ck := none) (h1 := H) ?_ ?_
  · rw [gs__law_moved_2]
    simp only [dI, dP, aSeq, aIx, aVar, aC, List.getElem?_cons_zero, List.getElem?_cons_succ, ix, tabD, seqOf]
  · rw [List.map_map]
    refine lc_mapR rowD _ (fun r hr => ?_) (by unfold most; omega)
    rw [turn_mv2 (gn_mv1 hj hN (hp r hr) hR hk (by rw [hl r hr]; omega)) rfl] <;> rfl
theorem run_moved {j : Nat} {x wo p p0 r b o ww : D} {n : Int} {l : List D} {H0 H1 H2 : AH} (i0 : dIx H0 wo (.int 0) = some p) (i00 : dIx H0 p (.int 0) = some p0) (ln : dBI H0 .len [p0] = some (.val (.int n))) (c1 : cF tb N j "_law_row" [x, .int n] H0 = some (r, H1))
    (c2 : cF tb N j "_law_one" [x, byD] H1 = some (b, H2)) (q : dGn (cF tb N j) g__law_moved_2 [some x, some wo, none, some r, some b, none, none, none] H2 = some (l, H2)) (tu : dBI H2 .tuple [.lst l] = some (.val o)) (i1 : dIx H2 wo (.int 1) = some ww) (le : H2.length = H0.length) :
    runB false (dSs (cF tb N j) N b__law_moved ([x, wo].map some ++ List.replicate (8 - [x, wo].length) none) H0) H0 = some (.tup [o, ww], H2) := by
  simp only [b__law_moved, dSs, dS_expr, dS_ret, dS_retN, dS_asg, dS_par, dS_aug, dS_ite, dS_for, dS_wh, dS_pass, dS_brk, dS_cnt, dP, dPs, dI, dG, dGs, dB, cSeq, cRet, cExpr, cAsg, cPar, setAll, cAug, augI, cIte, aVar, aC, tst, aTup, aLst, aBin, aNeg, aCmp, aChain, aNot, aIte, aIx, aO, aSl, dCut, aCall, aCallk, aBi, aMeth, aFin, aEl, aOT, aSeq, aRange1_eq, aEnum, aZip, wipeE, List.foldl_cons, List.foldl_nil, aCons, aStar, aAndV, aOrV, aAnd, aOr, aNotT, gNm, gTp, gNl, gCn, Rz.fin, truth, dc_eq_int, dc_ne_int, dc_eq_fr, dc_eq_str, dc_ne_str, dc_lt, dc_le, dc_gt, dc_ge, dc_is, dc_isn, List.getElem?_cons_zero, List.getElem?_cons_succ, List.set_cons_zero, List.set_cons_succ, List.map_cons, List.map_nil, List.length_cons, List.length_nil, List.replicate, List.cons_append, List.nil_append, List.append_nil, Nat.reduceAdd, Nat.reduceSub, Nat.sub_self, Nat.reduceLeDiff, if_true, if_false, Bool.false_eq_true, reduceIte, Int.cast_ofNat_Int, eq_self, decide_true, decide_false, Bool.not_true, Bool.not_false, Bool.and_self, Bool.and_true, Bool.true_and, Bool.and_false, Bool.false_and, Bool.or_false, Bool.false_or, Bool.or_true, Bool.true_or, isi1, isi2, isi3, isi4, isi5, isi6, ok_int, deq_int, view_int, view_fr, view_str, ok_fr, eq_fr, view_tup, view_lst, ty_fr, tyN, List.any_cons, List.any_nil, atI_0, atI_1, atI_2, atI_3, atI_n, most, runB_rt, runB_nx, fin_same, i0, i00, ln, c1, db_12, c2, q, tu, i1]
  exact fin_len le
theorem D_moved {i n0 n m S : Nat} {w : Wl} {P W : List (List Rat)} {c : List Rat} (hK : 4 ≤ K) (hN : 1000000 ≤ N) (hi : i < h.length) (ok : WOk n0 w) (hn0 : n0 ≤ 600000) (wo : Wo n m S P W c) :
    ∃ (P' : List (List Rat)) (w' : Wl), cF tb N K "_law_moved" [.ref i, setD P W] (h.set i (wD w)) = some (setD P' W, h.set i (wD w')) ∧ Vs n m P' W ∧ bestN (sums P' c) = bestN (sums P c) ∧ WOk (n0 + 20) w' := by
  obtain ⟨j, rfl, hj⟩ := dep hK
  have hl : ∀ w1 w2 : Wl, (h.set i (wD w1)).length = (h.set i (wD w2)).length := fun _ _ => by rw [List.length_set, List.length_set]
  have n4 := wo.n4
  have m5 := wo.m5
  have m1 := wo.m1
  have pl := wo.p.len
  have p0 : 0 < P.length := by omega
  have r0 := wo.p.row _ (List.getElem_mem p0)
  obtain ⟨R, w1, c1, Rl, Rq, k1⟩ := D_row (N := N) (K := j) (h := h) (n := n) hj hN hi ok (by omega) (by omega)
  obtain ⟨kd, w2, c2, km, k2⟩ := D_one (N := N) (K := j) (h := h) (x := byD) (xs := byL.map fr) (.inl by_eq) (by omega) hi k1 (by omega) (by simp [byL])
  obtain ⟨k, km2, rfl⟩ := List.mem_map.mp km
  obtain ⟨kp, ks⟩ := by_pos k km2
  have Rs : ∀ x ∈ R, Sz 900 x := fun x hx => ((Rq x hx).szB (a := 84) (b := 84) (by decide +kernel) (by decide +kernel)).mono (by decide)
  have ps := wo.p.sz (by omega)
  have g := gn_mv2 (N := N) (j := j) (H := h.set i (wD w2)) (e0 := some (.ref i)) (wo := setD P W) (e2 := none) (e5 := none) (e6 := none) (e7 := none) (k := k) (P := P) (R := R) (by omega) hN (by rfl) ps (wo.p.row) Rs ks (by omega) (by omega)
  refine ⟨P.map fun r => mvR r R k, w2, ?_, ⟨⟨by rw [List.length_map]; exact pl, fun r hr => ?_⟩, mkTb wo.w (by omega), m1, m5, wo.n2, n4⟩, best_mv kp wo.p.row Rl, k2.mono (by omega)⟩
  · rw [call_at lk__law_moved (by rfl)]
    have i00 : dIx (h.set i (wD w)) (tabD P) (.int 0) = some (rowD (nth P 0)) := ix_tab (a := 0) p0
    have ln : dBI (h.set i (wD w)) .len [rowD (nth P 0)] = some (.val (.int n)) := by
      unfold rowD dBI dB1 seqOf
      simp only [List.length_map, nth_get p0, r0]
    exact run_moved (by rfl) i00 ln c1 c2 g rfl (by rfl) (hl _ _)
  · obtain ⟨s, hs, rfl⟩ := List.mem_map.mp hr
    refine ⟨by unfold mvR; rw [List.length_map, List.length_zip, wo.p.row s hs, Rl, Nat.min_self], fun x hx => ?_⟩
    obtain ⟨z, hz, rfl⟩ := List.mem_map.mp hx
    exact (((ps s hs z.1 (List.of_mem_zip hz).1).add (Rs z.2 (List.of_mem_zip hz).2)).mul ks).mono (by decide)
end Row
namespace Row
open PySem PySem.Spec PyProof.Rows L2 Ev
variable {N K : Nat} {h : AH}
def moL : List Rat := [0, 1, mkRat 1 3]
abbrev moD : D := .tup [.tup [.int 0, .int 1], .tup [.int 1, .int 1], .tup [.int 1, .int 3]]
theorem mo_eq : moD = .tup (moL.map fr) := by
  have a : moL.map (fun q => (q.num, (q.den : Int))) = [(0, 1), (1, 1), (1, 3)] := by decide +kernel
  have b : moL.map fr = (moL.map fun q => (q.num, (q.den : Int))).map fun p => D.tup [.int p.1, .int p.2] := by rw [List.map_map] <;> rfl
  rw [b, a] <;> rfl
theorem mo_Q : ∀ k ∈ moL, Q 3 1 k := fun k hk => by
  unfold moL at hk
  simp only [List.mem_cons, List.not_mem_nil, or_false] at hk
  rcases hk with rfl | rfl | rfl
  · exact ⟨by decide, 0, by decide +kernel, by decide⟩
  · exact ⟨by decide, 3, by decide +kernel, by decide⟩
  · exact ⟨by decide, 1, rfl, by decide⟩
theorem turn_more {j : Nat} {H H1 : AH} {e1 e2 e3 e4 e5 e6 e7 e8 e9 e10 e11 e12 e13 e14 : Option D} {x y k r : D} (c1 : cF tb N j "_law_one" [x, moD] H = some (k, H1)) (c2 : cF tb N j "_law_plus" [y, k] H1 = some (r, H1)) :
    gnF (cF tb N j) g__law_right_1 [some x, e1, e2, e3, e4, e5, e6, e7, e8, e9, e10, e11, e12, e13, e14] y H = some ([r], H1) := by
  simp only [gnF, g__law_right_1, dSs, dS_expr, dS_ret, dS_retN, dS_asg, dS_par, dS_aug, dS_ite, dS_for, dS_wh, dS_pass, dS_brk, dS_cnt, dP, dPs, dI, dG, dGs, dB, cSeq, cRet, cExpr, cAsg, cPar, setAll, cAug, augI, cIte, aVar, aC, tst, aTup, aLst, aBin, aNeg, aCmp, aChain, aNot, aIte, aIx, aO, aSl, dCut, aCall, aCallk, aBi, aMeth, aFin, aEl, aOT, aSeq, aRange1_eq, aEnum, aZip, wipeE, List.foldl_cons, List.foldl_nil, aCons, aStar, aAndV, aOrV, aAnd, aOr, aNotT, gNm, gTp, gNl, gCn, Rz.fin, truth, dc_eq_int, dc_ne_int, dc_eq_fr, dc_eq_str, dc_ne_str, dc_lt, dc_le, dc_gt, dc_ge, dc_is, dc_isn, List.getElem?_cons_zero, List.getElem?_cons_succ, List.set_cons_zero, List.set_cons_succ, List.map_cons, List.map_nil, List.length_cons, List.length_nil, List.replicate, List.cons_append, List.nil_append, List.append_nil, Nat.reduceAdd, Nat.reduceSub, Nat.sub_self, Nat.reduceLeDiff, if_true, if_false, Bool.false_eq_true, reduceIte, Int.cast_ofNat_Int, eq_self, decide_true, decide_false, Bool.not_true, Bool.not_false, Bool.and_self, Bool.and_true, Bool.true_and, Bool.and_false, Bool.false_and, Bool.or_false, Bool.false_or, Bool.or_true, Bool.true_or, isi1, isi2, isi3, isi4, isi5, isi6, ok_int, deq_int, view_int, view_fr, view_str, ok_fr, eq_fr, view_tup, view_lst, ty_fr, tyN, List.any_cons, List.any_nil, atI_0, atI_1, atI_2, atI_3, atI_n, most, runB_rt, runB_nx, fin_same, c1, c2]
theorem gn_more {j i n0 d M : Nat} {w : Wl} {act : Int} {r : List Rat} {wo W : D} {e1 e2 e3 e5 e6 e7 e8 e9 e10 e11 e13 e14 : Option D} (hj : 2 ≤ j) (hN : 1000000 ≤ N) (hi : i < h.length) (ok : WOk n0 w) (hn0 : n0 ≤ 700000) (i1 : dIx (h.set i (wD w)) wo (.int 1) = some W) (i2 : dIx (h.set i (wD w)) W (.int act) = some (rowD r))
    (hX : ∀ x ∈ r, Sz 900 x) (hQ : ∀ x ∈ r, Q d M x) (hl : r.length ≤ 50) :
    ∃ (Y : List Rat) (w' : Wl), dGn (cF tb N j) g__law_right_1 [some (.ref i), e1, e2, e3, some wo, e5, e6, e7, e8, e9, e10, e11, some (.int act), e13, e14] (h.set i (wD w)) = some (Y.map fr, h.set i (wD w')) ∧ Y.length = r.length ∧ (∀ x ∈ Y, Q (3 * d) (M + 1) x) ∧ WOk (n0 + r.length) w' := by
  obtain ⟨acc, H, lc, Y, w', rfl, rfl, y1, y2, k⟩ := lcL_inv (f := gnF (cF tb N j) g__law_right_1 [some (.ref i), e1, e2, e3, some wo, e5, e6, e7, e8, e9, e10, e11, some (.int act), e13, e14])
    (fun pre acc H => ∃ (Y : List Rat) (w' : Wl), acc = Y.map fr ∧ H = h.set i (wD w') ∧ Y.length = pre.length ∧ (∀ x ∈ Y, Q (3 * d) (M + 1) x) ∧ WOk (n0 + pre.length) w')
    (ds := r.map fr) [] (acc := []) (h := h.set i (wD w)) ⟨[], w, rfl, rfl, rfl, (fun q hq => by cases hq), ok⟩ (by unfold most; simp only [List.length_nil, List.length_map]; omega) fun a y b acc H eq ih => by
      obtain ⟨Y, w1, rfl, rfl, e1, e2, k1⟩ := ih
      have len : a.length + (b.length + 1) = r.length := by
        have := congrArg List.length eq
        simpa using this
      have ym : y ∈ r.map fr := by rw [← List.nil_append (r.map fr), ← eq]; exact List.mem_append_right _ List.mem_cons_self
      obtain ⟨x, hx, rfl⟩ := List.mem_map.mp ym
      obtain ⟨kd, w2, c, km, k2⟩ := D_one (N := N) (K := j) (h := h) (x := moD) (xs := moL.map fr) (.inl mo_eq) hj hi k1 (by omega) (by simp [moL])
      obtain ⟨v, hv, rfl⟩ := List.mem_map.mp km
      have vq := mo_Q v hv
      have c2 := l_plus (N := N) (h := h.set i (wD w2)) (K := j) hj hN ((hX x hx).mono (by decide)) ((vq.szB (a := 2) (b := 0) (by decide) (by decide)).mono (by decide))
      refine ⟨_, _, turn_more c c2, Y ++ [x + v], w2, ?_, rfl, ?_, fun z hz => ?_, ?_⟩
      · rw [List.map_append] <;> rfl
      · rw [List.length_append, List.length_append, e1] <;> rfl
      · rcases List.mem_append.mp hz with t | t
        · exact e2 z t
        · rw [List.mem_singleton] at t; subst t
          have u := vq.up (e := d) (hQ x hx).1
          rw [Nat.mul_comm d 3] at u
          exact ((hQ x hx).up (by decide)).add u
      · rw [List.length_append]
        exact k2.mono (by simp only [List.length_cons, List.length_nil]; omega)
  simp only [List.nil_append, List.length_map] at y1 k
  refine ⟨Y, w', gn_of (ds := r.map fr) (ck := none) (h1 := h.set i (wD w)) ?_ lc, y1, y2, k⟩
  rw [gs__law_right_1]
  simp only [dI, dP, aSeq, aIx, aVar, aC, List.getElem?_cons_zero, List.getElem?_cons_succ, i1, i2, seqOf, rowD]
theorem more_QB {B n m a : Nat} {W : List (List Rat)} (q : QB B n m W) (hB : 1 ≤ B) : ∃ d M, (∀ r ∈ W, ∀ x ∈ r, Q d M x) ∧ (∀ Y : List Rat, Y.length = n → (∀ x ∈ Y, Q (3 * d) (M + 1) x) → QB (B + 2) n m (W.set a Y)) := by
  obtain ⟨d, M, hd, hM, d0, qp⟩ := q
  refine ⟨d, M, fun r hr => (qp.row r hr).2, fun Y l hY => ?_⟩
  have e : 2 ^ (B + 2) = 2 ^ B * 4 := Nat.pow_add 2 B 2
  have p : 0 < 2 ^ B := Nat.pow_pos (by decide)
  refine ⟨3 * d, M + 1, by omega, by omega, by omega, ⟨by rw [List.length_set]; exact qp.len, fun r hr => ?_⟩⟩
  rcases List.mem_or_eq_of_mem_set hr with t | t
  · exact ⟨(qp.row r t).1, fun x hx => (((qp.row r t).2 x hx).up (by decide)).mono (by omega)⟩
  · subst t; exact ⟨l, hY⟩
/-! ### sure beliefs -/
theorem turn_sp {j s k : Nat} {H : AH} {e0 e2 e3 e4 e5 e6 e7 e8 e9 e10 e11 e12 e13 e14 : Option D} :
    gnF (cF tb N j) g__law_right_2 [e0, some (.int s), e2, e3, e4, e5, e6, e7, e8, e9, e10, e11, e12, e13, e14] (.int k) H = some ([fr (if k = s then 1 else 0)], H) := by
  by_cases z : k = s
  · have z2 : decide ((k : Int) = s) = true := by rw [decide_eq_true_eq]; omega
    rw [if_pos z]
    simp only [gnF, g__law_right_2, dSs, dS_expr, dS_ret, dS_retN, dS_asg, dS_par, dS_aug, dS_ite, dS_for, dS_wh, dS_pass, dS_brk, dS_cnt, dP, dPs, dI, dG, dGs, dB, cSeq, cRet, cExpr, cAsg, cPar, setAll, cAug, augI, cIte, aVar, aC, tst, aTup, aLst, aBin, aNeg, aCmp, aChain, aNot, aIte, aIx, aO, aSl, dCut, aCall, aCallk, aBi, aMeth, aFin, aEl, aOT, aSeq, aRange1_eq, aEnum, aZip, wipeE, List.foldl_cons, List.foldl_nil, aCons, aStar, aAndV, aOrV, aAnd, aOr, aNotT, gNm, gTp, gNl, gCn, Rz.fin, truth, dc_eq_int, dc_ne_int, dc_eq_fr, dc_eq_str, dc_ne_str, dc_lt, dc_le, dc_gt, dc_ge, dc_is, dc_isn, dBin, List.getElem?_cons_zero, List.getElem?_cons_succ, List.set_cons_zero, List.set_cons_succ, List.map_cons, List.map_nil, List.length_cons, List.length_nil, List.replicate, List.cons_append, List.nil_append, List.append_nil, Nat.reduceAdd, Nat.reduceSub, Nat.sub_self, Nat.reduceLeDiff, if_true, if_false, Bool.false_eq_true, reduceIte, Int.cast_ofNat_Int, eq_self, decide_true, decide_false, Bool.not_true, Bool.not_false, Bool.and_self, Bool.and_true, Bool.true_and, Bool.and_false, Bool.false_and, Bool.or_false, Bool.false_or, Bool.or_true, Bool.true_or, isi1, isi2, isi3, isi4, isi5, isi6, ok_int, deq_int, view_int, view_fr, view_str, ok_fr, eq_fr, view_tup, view_lst, ty_fr, tyN, List.any_cons, List.any_nil, atI_0, atI_1, atI_2, atI_3, atI_n, most, runB_rt, runB_nx, fin_same, z2, fr0, fr1]
  · have z2 : decide ((k : Int) = s) = false := by rw [decide_eq_false_iff_not]; omega
    rw [if_neg z]
    simp only [gnF, g__law_right_2, dSs, dS_expr, dS_ret, dS_retN, dS_asg, dS_par, dS_aug, dS_ite, dS_for, dS_wh, dS_pass, dS_brk, dS_cnt, dP, dPs, dI, dG, dGs, dB, cSeq, cRet, cExpr, cAsg, cPar, setAll, cAug, augI, cIte, aVar, aC, tst, aTup, aLst, aBin, aNeg, aCmp, aChain, aNot, aIte, aIx, aO, aSl, dCut, aCall, aCallk, aBi, aMeth, aFin, aEl, aOT, aSeq, aRange1_eq, aEnum, aZip, wipeE, List.foldl_cons, List.foldl_nil, aCons, aStar, aAndV, aOrV, aAnd, aOr, aNotT, gNm, gTp, gNl, gCn, Rz.fin, truth, dc_eq_int, dc_ne_int, dc_eq_fr, dc_eq_str, dc_ne_str, dc_lt, dc_le, dc_gt, dc_ge, dc_is, dc_isn, dBin, List.getElem?_cons_zero, List.getElem?_cons_succ, List.set_cons_zero, List.set_cons_succ, List.map_cons, List.map_nil, List.length_cons, List.length_nil, List.replicate, List.cons_append, List.nil_append, List.append_nil, Nat.reduceAdd, Nat.reduceSub, Nat.sub_self, Nat.reduceLeDiff, if_true, if_false, Bool.false_eq_true, reduceIte, Int.cast_ofNat_Int, eq_self, decide_true, decide_false, Bool.not_true, Bool.not_false, Bool.and_self, Bool.and_true, Bool.true_and, Bool.and_false, Bool.false_and, Bool.or_false, Bool.false_or, Bool.or_true, Bool.true_or, isi1, isi2, isi3, isi4, isi5, isi6, ok_int, deq_int, view_int, view_fr, view_str, ok_fr, eq_fr, view_tup, view_lst, ty_fr, tyN, List.any_cons, List.any_nil, atI_0, atI_1, atI_2, atI_3, atI_n, most, runB_rt, runB_nx, fin_same, z2, fr0, fr1]
theorem gn_sp {j s n : Nat} {H : AH} {e0 e2 e3 e4 e5 e7 e8 e9 e10 e11 e12 e13 e14 : Option D} (hn : n ≤ 1000) :
    dGn (cF tb N j) g__law_right_2 [e0, some (.int s), e2, e3, e4, e5, some (.int n), e7, e8, e9, e10, e11, e12, e13, e14] H = some ((sureR n s).map fr, H) := by
  refine gn_of (ds := (List.range n).map fun i => .int (i : Nat)) (ck := none) (h1 := H) ?_ ?_
  · have rn := rng1_nat (h := H) (n := n) (by omega)
    rw [gs__law_right_2, ← rn]
    simp only [dI, dP, aRange1_eq, aVar, List.getElem?_cons_zero, List.getElem?_cons_succ]
  · unfold sureR
    rw [List.map_map]
    exact lc_mapR (fun k : Nat => D.int (k : Nat)) (fun k => fr (if k = s then 1 else 0)) (fun k hk => turn_sp) (by rw [List.length_range]; unfold most; omega)
theorem sure_CQ {n s : Nat} (hs : s < n) : CQ n 1 (sureR n s) := by
  refine ⟨by unfold sureR; rw [List.length_map, List.length_range], by decide, by decide, fun y hy => ?_, ?_⟩
  · obtain ⟨k, hk, rfl⟩ := List.mem_map.mp hy
    by_cases z : k = s
    · rw [if_pos z]; exact ⟨1, by decide, by decide, by decide +kernel⟩
    · rw [if_neg z]; exact ⟨0, by decide, by decide, by decide +kernel⟩
  · have key : ∀ n (t : Rat), (List.range n).foldl (fun s' k => s' + (if k = s then (1 : Rat) else 0)) t = t + (if s < n then 1 else 0) := by
      intro n
      induction n with
      | zero => intro t; simp [Rat.add_zero]
      | succ n ih =>
        intro t
        rw [List.range_succ, List.foldl_append, ih, List.foldl_cons, List.foldl_nil]
        by_cases a : s < n
        · rw [if_pos a, if_neg (by omega), if_pos (by omega), Rat.add_zero]
        · by_cases b : n = s
          · rw [if_neg a, if_pos b, if_pos (by omega), Rat.add_zero]
          · rw [if_neg a, if_neg b, if_neg (by omega), Rat.add_zero]
    unfold sumR sureR
    rw [List.foldl_map, key, if_pos hs, Rat.zero_add]
theorem step_sp {j : Nat} {H : AH} {d wo sp : D} {l : List D} {s1 : Str} {e0 e1 e2 e3 e5 e6 e7 e8 e9 e10 e11 e12 e13 e14 : Option D} (q : dGn (cF tb N j) g__law_right_2 [e0, some d, e2, e3, some wo, e5, e6, e7, e8, e9, e10, e11, e12, e13, e14] H = some (l, H)) (tu : dBI H .tuple [.lst l] = some (.val sp))
    (c1 : cF tb N j "sure" [wo, d] H = some (sp, H)) (r1 : dBI H .repr [sp] = some (.val (.str s1))) (c2 : cF tb N j "_law_there" [wo, sp] H = some (.bl true, H)) :
    bodyF (cF tb N j) N (.name 1) b__law_right_1 d [e0, e1, e2, e3, some wo, e5, e6, e7, e8, e9, e10, e11, e12, e13, e14] H = some (.nx [e0, some d, e2, e3, some wo, e5, e6, e7, some sp, e9, e10, e11, e12, e13, e14] H) := by
  simp only [bodyF, b__law_right_1, dSs, dS_expr, dS_ret, dS_retN, dS_asg, dS_par, dS_aug, dS_ite, dS_for, dS_wh, dS_pass, dS_brk, dS_cnt, dP, dPs, dI, dG, dGs, dB, cSeq, cRet, cExpr, cAsg, cPar, setAll, cAug, augI, cIte, aVar, aC, tst, aTup, aLst, aBin, aNeg, aCmp, aChain, aNot, aIte, aIx, aO, aSl, dCut, aCall, aCallk, aBi, aMeth, aFin, aEl, aOT, aSeq, aRange1_eq, aEnum, aZip, wipeE, List.foldl_cons, List.foldl_nil, aCons, aStar, aAndV, aOrV, aAnd, aOr, aNotT, gNm, gTp, gNl, gCn, Rz.fin, truth, dc_eq_int, dc_ne_int, dc_eq_fr, dc_eq_str, dc_ne_str, dc_lt, dc_le, dc_gt, dc_ge, dc_is, dc_isn, List.getElem?_cons_zero, List.getElem?_cons_succ, List.set_cons_zero, List.set_cons_succ, List.map_cons, List.map_nil, List.length_cons, List.length_nil, List.replicate, List.cons_append, List.nil_append, List.append_nil, Nat.reduceAdd, Nat.reduceSub, Nat.sub_self, Nat.reduceLeDiff, if_true, if_false, Bool.false_eq_true, reduceIte, Int.cast_ofNat_Int, eq_self, decide_true, decide_false, Bool.not_true, Bool.not_false, Bool.and_self, Bool.and_true, Bool.true_and, Bool.and_false, Bool.false_and, Bool.or_false, Bool.false_or, Bool.or_true, Bool.true_or, isi1, isi2, isi3, isi4, isi5, isi6, ok_int, deq_int, view_int, view_fr, view_str, ok_fr, eq_fr, view_tup, view_lst, ty_fr, tyN, List.any_cons, List.any_nil, atI_0, atI_1, atI_2, atI_3, atI_n, most, runB_rt, runB_nx, fin_same, aCallk, List.filterMap_cons, List.filterMap_nil, q, tu, c1, r1, c2]
end Row
namespace Row
open PySem PySem.Spec PyProof.Rows L2 Ev
variable {N K : Nat} {h : AH}
theorem rep_tup {l : List Rat} (hl : ∀ x ∈ l, Sz 1000 x) (n5 : l.length ≤ 5) : repOk (rowD l) = true := by
  obtain ⟨a, b, c⟩ := sm_frs hl
  unfold rowD
  refine repOk_of rfl (by simpa only [smD] using a) ?_ ?_
  · simp only [wtD]; omega
  · simp only [dpD]; omega
theorem loop_sure {j B n m : Nat} {P W : List (List Rat)} {e0 e2 e3 e5 e7 e9 e10 e11 e12 e13 e14 : Option D} (hj : 9 ≤ j) (hN : 1000000 ≤ N) (p : QB B n m P) (q : QB B n m W) (hB : B ≤ 400) (n2 : 2 ≤ n) (n4 : n ≤ 4) (m1 : 1 ≤ m) (m5 : m ≤ 5) :
    ∃ z1 z8, forL none (bodyF (cF tb N j) N (.name 1) b__law_right_1) ((List.range n).map fun i => .int (i : Nat)) [e0, none, e2, e3, some (setD P W), e5, some (.int n), e7, none, e9, e10, e11, e12, e13, e14] h
      = some (.nx [e0, z1, e2, e3, some (setD P W), e5, some (.int n), e7, z8, e9, e10, e11, e12, e13, e14] h) := by
  obtain ⟨e', H', lp, z1, z8, rfl, rfl⟩ := forL_inv (f := bodyF (cF tb N j) N (.name 1) b__law_right_1)
    (fun pre e H => ∃ (z1 z8 : Option D), e = [e0, z1, e2, e3, some (setD P W), e5, some (.int n), e7, z8, e9, e10, e11, e12, e13, e14] ∧ H = h)
    (ds := (List.range n).map fun i => .int (i : Nat)) [] (e := [e0, none, e2, e3, some (setD P W), e5, some (.int n), e7, none, e9, e10, e11, e12, e13, e14]) (h := h)
    ⟨none, none, rfl, rfl⟩ fun a d pb e H eq ih => by
      obtain ⟨z1, z8, rfl, rfl⟩ := ih
      have dm : d ∈ (List.range n).map fun i => D.int (i : Nat) := by
        rw [← List.nil_append ((List.range n).map fun i => D.int (i : Nat)), ← eq]
        exact List.mem_append_right _ List.mem_cons_self
      obtain ⟨s, hs, rfl⟩ := List.mem_map.mp dm
      rw [List.mem_range] at hs
      have k := sure_CQ hs
      have v := mkVs p q hB n2 n4 m1 m5
      exact ⟨_, _, .inl (step_sp (gn_sp (by omega)) rfl (e_sure (N := N) (h := H) (K := j) (by omega) v hs) (rep_is (rep_tup (fun x hx => (k.sz x hx).mono (by decide)) (by rw [k.len]; omega))) (l_there (N := N) (h := H) hj hN (mkWd p q k hB n2 n4 m1 m5))), _, _, rfl, rfl⟩
  exact ⟨z1, z8, lp⟩
theorem run_right {j : Nat} {x wo c c2 p w bl bs due mw a0 v0 py wy pr wr mo u1 u2 u3 w2 : D} {n m a : Int} {l l2 : List D} {s1 s2 : Str} {z1 z8 : Option D} {H0 H1 H2 H3 H4 H5 : AH}
    (cw : cF tb N j "_law_world" [x] H0 = some (.tup [wo, c], H1)) (ln : dBI H1 .len [c] = some (.val (.int n))) (i1 : dIx H1 wo (.int 0) = some p) (lm : dBI H1 .len [p] = some (.val (.int m)))
    (t1 : cF tb N j "_law_there" [wo, c] H1 = some (.bl true, H1)) (cc : cF tb N j "_law_chance" [x, .int n] H1 = some (c2, H2)) (t2 : cF tb N j "_law_there" [wo, c2] H2 = some (.bl true, H2))
    (rn : rng1 n H2 = some (l, none, H2)) (lp : forL none (bodyF (cF tb N j) N (.name 1) b__law_right_1) l [some x, none, none, none, some wo, some c, some (.int n), some (.int m), none, none, none, none, none, none, none] H2 = some (.nx [some x, z1, none, none, some wo, some c, some (.int n), some (.int m), z8, none, none, none, none, none, none] H2))
    (i2 : dIx H2 wo (.int 0) = some p) (cb : cF tb N j "_law_best" [p, c] H2 = some (bl, H2)) (tu1 : dBI H2 .tuple [bl] = some (.val bs)) (ch : cF tb N j "_law_choice" [wo, c] H2 = some (due, H2))
    (mv : cF tb N j "_law_moved" [x, wo] H2 = some (mw, H3)) (dr : cF tb N j "_law_draw" [x, .int m] H3 = some (.int a, H4))
    (b1 : cF tb N j "best_actions" [mw, c] H4 = some (bs, H4)) (b2 : cF tb N j "choice" [mw, c] H4 = some (a0, H4)) (b3 : cF tb N j "value" [mw, c] H4 = some (v0, H4)) (r1 : dBI H4 .repr [.lst [bs, a0, v0]] = some (.val (.str s1)))
    (d0 : dIx H4 due (.int 0) = some a0) (d1 : dIx H4 due (.int 1) = some v0) (py1 : cF tb N j "pay" [wo, .int a, c] H4 = some (py, H4)) (wy1 : cF tb N j "worth" [wo, .int a, c] H4 = some (wy, H4)) (r2 : dBI H4 .repr [.lst [py, wy]] = some (.val (.str s2)))
    (i3 : dIx H4 wo (.int 0) = some p) (i4 : dIx H4 p (.int a) = some pr) (dp : cF tb N j "_law_dot" [pr, c] H4 = some (py, H4)) (i5 : dIx H4 wo (.int 1) = some w) (i6 : dIx H4 w (.int a) = some wr) (dw : cF tb N j "_law_dot" [wr, c] H4 = some (wy, H4))
    (q : dGn (cF tb N j) g__law_right_1 [some x, z1, some (.lst [py, wy]), none, some wo, some c, some (.int n), some (.int m), z8, some bs, some due, some mw, some (.int a), none, none] H4 = some (l2, H5)) (tu2 : dBI H5 .tuple [.lst l2] = some (.val mo))
    (i7 : dIx H5 wo (.int 0) = some p) (i8 : dIx H5 wo (.int 1) = some w) (k1 : dCut H5 w none (some a) = some u1) (k2 : dBin H5 .add u1 (.tup [mo]) = some (.val u2)) (k3 : dCut H5 w (some (a + 1)) none = some u3) (k4 : dBin H5 .add u2 u3 = some (.val w2))
    (t3 : cF tb N j "_law_there" [.tup [p, w2], c] H5 = some (.bl true, H5)) (le : H5.length = H0.length) :
    runB false (dSs (cF tb N j) N b__law_right ([x].map some ++ List.replicate (15 - [x].length) none) H0) H0 = some (.bl true, H5) := by
  simp only [b__law_right, dSs, dS_expr, dS_ret, dS_retN, dS_asg, dS_par, dS_aug, dS_ite, dS_for, dS_wh, dS_pass, dS_brk, dS_cnt, dP, dPs, dI, dG, dGs, dB, cSeq, cRet, cExpr, cAsg, cPar, setAll, cAug, augI, cIte, aVar, aC, tst, aTup, aLst, aBin, aNeg, aCmp, aChain, aNot, aIte, aIx, aO, aSl, aCall, aCallk, aBi, aMeth, aFin, aEl, aOT, aSeq, aRange1_eq, aEnum, aZip, wipeE, List.foldl_cons, List.foldl_nil, aCons, aStar, aAndV, aOrV, aAnd, aOr, aNotT, gNm, gTp, gNl, gCn, Rz.fin, truth, dc_eq_int, dc_ne_int, dc_eq_fr, dc_eq_str, dc_ne_str, dc_lt, dc_le, dc_gt, dc_ge, dc_is, dc_isn, List.getElem?_cons_zero, List.getElem?_cons_succ, List.set_cons_zero, List.set_cons_succ, List.map_cons, List.map_nil, List.length_cons, List.length_nil, List.replicate, List.cons_append, List.nil_append, List.append_nil, Nat.reduceAdd, Nat.reduceSub, Nat.sub_self, Nat.reduceLeDiff, if_true, if_false, Bool.false_eq_true, reduceIte, Int.cast_ofNat_Int, eq_self, decide_true, decide_false, Bool.not_true, Bool.not_false, Bool.and_self, Bool.and_true, Bool.true_and, Bool.and_false, Bool.false_and, Bool.or_false, Bool.false_or, Bool.or_true, Bool.true_or, isi1, isi2, isi3, isi4, isi5, isi6, ok_int, deq_int, view_int, view_fr, view_str, ok_fr, eq_fr, view_tup, view_lst, ty_fr, tyN, List.any_cons, List.any_nil, atI_0, atI_1, atI_2, atI_3, atI_n, most, runB_rt, runB_nx, fin_same, List.zip_cons_cons, List.zip_nil_left, List.zip_nil_right, aCallk, List.filterMap_cons, List.filterMap_nil, cw, ln, i1, lm, t1, cc, t2, rn, lp, i2, cb, tu1, ch, mv, dr, b1, b2, b3, r1, d0, d1, py1, wy1, r2, i3, i4, dp, i5, i6, dw, q, tu2, i7, i8, k1, k2, k3, k4, t3, db_add]
  exact fin_len le
end Row
namespace Row
open PySem PySem.Spec PyProof.Rows L2 Ev
variable {N K : Nat} {h : AH}
theorem ws_eq {P P' W : List (List Rat)} {c : List Rat} (e : bestN (sums P' c) = bestN (sums P c)) : wsR P' W c = wsR P W c := by unfold wsR; rw [e]
theorem choice_eq {P P' W : List (List Rat)} {c : List Rat} (e : bestN (sums P' c) = bestN (sums P c)) : choiceN P' W c = choiceN P W c := by unfold choiceN; rw [ws_eq e, e]
theorem D_right {i n0 : Nat} {w : Wl} (hK : 10 ≤ K) (hN : 1000000 ≤ N) (hi : i < h.length) (ok : WOk n0 w) (hn0 : n0 ≤ 200000) :
    ∃ (w' : Wl), cF tb N K "_law_right" [.ref i] (h.set i (wD w)) = some (.bl true, h.set i (wD w')) ∧ WOk (n0 + 1000) w' := by
  obtain ⟨j, rfl, hj⟩ := dep hK
  have hl : ∀ w1 w2 : Wl, (h.set i (wD w1)).length = (h.set i (wD w2)).length := fun _ _ => by rw [List.length_set, List.length_set]
  obtain ⟨n, m, S, P, W, c, w1, cw, wo, k1⟩ := D_world (N := N) (K := j) (h := h) (by omega) hN hi ok (by omega)
  have n2 := wo.n2
  have n4 := wo.n4
  have m1 := wo.m1
  have m5 := wo.m5
  have cl := wo.c.len
  have v := mkVs wo.p wo.w (by omega) n2 n4 m1 m5
  have wd := mkWd wo.p wo.w wo.c (by omega) n2 n4 m1 m5
  obtain ⟨vs, w2, cc, vl, vs0, vm, k2⟩ := D_chance (N := N) (K := j) (h := h) (n := n) (by omega) hN hi k1 (by omega) (by omega) (by omega)
  have cq2 := ch_CQ vl n4 vs0 vm
  have wd2 := mkWd wo.p wo.w cq2 (by omega) n2 n4 m1 m5
  have t1 := l_there (N := N) (h := h.set i (wD w1)) (K := j) hj hN wd
  have t2 := l_there (N := N) (h := h.set i (wD w2)) (K := j) hj hN wd2
  have rn := rng1_nat (h := h.set i (wD w2)) (n := n) (by omega)
  obtain ⟨z1, z8, lp⟩ := loop_sure (N := N) (h := h.set i (wD w2)) (e0 := some (.ref i)) (e2 := none) (e3 := none) (e5 := some (rowD c)) (e7 := some (.int m)) (e9 := none) (e10 := none) (e11 := none) (e12 := none) (e13 := none) (e14 := none) hj hN wo.p wo.w (by omega) n2 n4 m1 m5
  have cb := l_best (N := N) (h := h.set i (wD w2)) (K := j) (by omega) hN wd.v.p wd.p9 wd.c9 (by omega) (by omega)
  obtain ⟨w3p, w3, mv, v3, b3, k3⟩ := D_moved (N := N) (K := j) (h := h) (by omega) hN hi k2 (by omega) wo
  obtain ⟨a, w4, dr, a0, a1, k4⟩ := D_draw (N := N) (K := j) (h := h) (few := (m : Int)) (by omega) hi k3 (by omega) (by omega)
  obtain ⟨a, rfl⟩ : ∃ u : Nat, a = u := ⟨a.toNat, by omega⟩
  have am : a < m := by omega
  have e1 := e_best_actions (N := N) (h := h.set i (wD w4)) (K := j) (by omega) v3 wd.ch
  obtain ⟨x, r, ex, e2⟩ := e_choice (N := N) (h := h.set i (wD w4)) (K := j) (by omega) v3 wd.ch
  have e3 := e_value (N := N) (h := h.set i (wD w4)) (K := j) (by omega) v3 wd.ch
  rw [b3] at e1
  rw [ws_eq b3] at e3
  rw [choice_eq b3] at ex
  have ch := l_choice (N := N) (h := h.set i (wD w2)) (K := j) (by omega) hN wd.v wd.ch wd.p9 wd.w9 wd.c9 ex
  have xl : x < m := by
    have : x ∈ choiceN P W c := by rw [ex]; exact List.mem_cons_self
    unfold choiceN at this
    exact best_lt wd.v.p (List.mem_filter.1 this).1
  have l5 : (bestN (sums P c)).length ≤ 5 := by
    have := bestN_len (l := sums P c)
    rw [sums_len, wo.p.len] at this
    omega
  have rt := (rep_told (bs_lt (c := c) wd.v.p m5) l5 (by omega : x < 1000) (ws_sz wd _ (mx_mem (wsR_ne wd.v)))).2
  have e4 := e_pay (N := N) (h := h.set i (wD w4)) (K := j) (by omega) v wd.ch am
  have e5 := e_worth (N := N) (h := h.set i (wD w4)) (K := j) (by omega) v wd.ch am
  have pl := wo.p.len
  have wl := wo.w.len
  have ap : a < P.length := by omega
  have aw : a < W.length := by omega
  have mp : nth P a ∈ P := by rw [nth_get ap]; exact List.getElem_mem _
  have mw : nth W a ∈ W := by rw [nth_get aw]; exact List.getElem_mem _
  have dp := l_dot (N := N) (h := h.set i (wD w4)) (K := j) (by omega) hN (wd.p9 _ mp) wd.c9 (by rw [wo.p.row _ mp]; omega)
  have dw := l_dot (N := N) (h := h.set i (wD w4)) (K := j) (by omega) hN (wd.w9 _ mw) wd.c9 (by rw [wo.w.row _ mw]; omega)
  have rr : repOk (.lst ([dotR (nth P a) c, dotR (nth W a) c].map fr)) = true := rep_row (fun y hy => by
    simp only [List.mem_cons, List.not_mem_nil, or_false] at hy
    rcases hy with rfl | rfl
    · exact wd.sp _ (List.mem_map.mpr ⟨_, mp, rfl⟩)
    · exact wd.sw _ (List.mem_map.mpr ⟨_, mw, rfl⟩)) (by show 2 ≤ 5; decide)
  obtain ⟨d, M, q1, q2⟩ := more_QB (a := a) wo.w (by omega)
  obtain ⟨Y, w5, g, yl, yq, k5⟩ := gn_more (N := N) (j := j) (h := h) (w := w4) (act := (a : Int)) (r := nth W a) (wo := setD P W) (W := tabD W) (e1 := z1) (e2 := some (.lst [fr (dotR (nth P a) c), fr (dotR (nth W a) c)])) (e3 := none) (e5 := some (rowD c)) (e6 := some (.int n)) (e7 := some (.int m)) (e8 := z8)
    (e9 := some (.tup ((bestN (sums P c)).map fun i => .int (i : Nat)))) (e10 := some (.tup [.int (x : Nat), fr (mx (wsR P W c))])) (e11 := some (setD w3p W)) (e13 := none) (e14 := none) (by omega) hN hi k4 (by omega) (by rfl) (ix_tab aw) (wd.w9 _ mw) (q1 _ mw) (by rw [wo.w.row _ mw]; omega)
  have wq := q2 Y (by rw [yl, wo.w.row _ mw]) yq
  have wd3 := mkWd (wo.p.mono (by omega)) wq wo.c (by omega) n2 n4 m1 m5
  have t3 := l_there (N := N) (h := h.set i (wD w5)) (K := j) hj hN wd3
  have aw' : a < (W.map rowD).length := by rw [List.length_map]; exact aw
  have hlw : (W.map rowD).length ≤ 1000 := by rw [List.length_map]; omega
  have kk := cut_add2 (h := h.set i (wD w5)) (y := rowD Y) aw' hlw
  have last : D.tup ((W.map rowD).set a (rowD Y)) = tabD (W.set a Y) := by
    unfold tabD
    rw [List.map_set]
  rw [last] at kk
  have ln : dBI (h.set i (wD w1)) .len [rowD c] = some (.val (.int (n : Nat))) := by
    unfold rowD dBI dB1 seqOf
    simp only [List.length_map, cl]
  have lm : dBI (h.set i (wD w1)) .len [tabD P] = some (.val (.int (m : Nat))) := by
    have := len_tab (h := h.set i (wD w1)) (P := P)
    rw [pl] at this
    exact this
  refine ⟨w5, ?_, k5.mono (by rw [wo.w.row _ mw]; omega)⟩
  rw [call_at lk__law_right (by rfl)]
  exact run_right cw ln (by rfl) lm t1 cc t2 rn lp (by rfl) cb (by rfl) ch mv dr e1 e2 e3 (rep_is rt) (by rfl) (by rfl) e4 e5 (rep_is rr) (by rfl) (ix_tab ap) dp (by rfl) (ix_tab aw) dw g (by rfl) (by rfl) (by rfl)
    (cut_to (by omega)) (cut_add1 hlw) (cut_from aw') kk t3 (hl _ _)
end Row
namespace Row
open PySem PySem.Spec PyProof.Rows L2 Ev
variable {N K : Nat} {h : AH}
/-! ### where the draws come from -/
section
variable {j : Nat} {x y : D} {v z t1 t2 t3 v' lap L own a v2 : Int} {zs : List D} {e3 e4 z3 : Option D} {H : AH}
theorem step_well (b1 : dBin H .mul (.int v) (.int 48889) = some (.val (.int t1))) (b2 : dBin H .mod (.int z) (.int 2147483477) = some (.val (.int t2))) (b3 : dBin H .mul (.int t2) (.int 5) = some (.val (.int t3))) (b4 : dBin H .mod (.int (t1 + t3 + 23)) (.int 2147483477) = some (.val (.int v'))) :
    bodyF (cF tb N j) N (.name 3) b__law_well_1 (.int z) [some x, some y, some (.int v), e3, e4] H = some (.nx [some x, some y, some (.int v'), some (.int z), e4] H) := by
  simp only [bodyF, b__law_well_1, dSs, dS_expr, dS_ret, dS_retN, dS_asg, dS_par, dS_aug, dS_ite, dS_for, dS_wh, dS_pass, dS_brk, dS_cnt, dP, dPs, dI, dG, dGs, dB, cSeq, cRet, cExpr, cAsg, cPar, setAll, cAug, augI, cIte, aVar, aC, tst, aTup, aLst, aBin, aNeg, aCmp, aChain, aNot, aIte, aIx, aO, aSl, dCut, aCall, aCallk, aBi, aMeth, aFin, aEl, aOT, aSeq, aRange1_eq, aEnum, aZip, wipeE, List.foldl_cons, List.foldl_nil, aCons, aStar, aAndV, aOrV, aAnd, aOr, aNotT, gNm, gTp, gNl, gCn, Rz.fin, truth, dc_eq_int, dc_ne_int, dc_eq_fr, dc_eq_str, dc_ne_str, dc_lt, dc_le, dc_gt, dc_ge, dc_is, dc_isn, List.getElem?_cons_zero, List.getElem?_cons_succ, List.set_cons_zero, List.set_cons_succ, List.map_cons, List.map_nil, List.length_cons, List.length_nil, List.replicate, List.cons_append, List.nil_append, List.append_nil, Nat.reduceAdd, Nat.reduceSub, Nat.sub_self, Nat.reduceLeDiff, if_true, if_false, Bool.false_eq_true, reduceIte, Int.cast_ofNat_Int, eq_self, decide_true, decide_false, Bool.not_true, Bool.not_false, Bool.and_self, Bool.and_true, Bool.true_and, Bool.and_false, Bool.false_and, Bool.or_false, Bool.false_or, Bool.or_true, Bool.true_or, isi1, isi2, isi3, isi4, isi5, isi6, ok_int, deq_int, view_int, view_fr, view_str, ok_fr, eq_fr, view_tup, view_lst, ty_fr, tyN, List.any_cons, List.any_nil, atI_0, atI_1, atI_2, atI_3, atI_n, most, runB_rt, runB_nx, fin_same, dbi_int, b1, b2, b3, b4, db_add]
theorem run_wellA (m0 : dBin H .mul (.int 6841) (.int lap) = some (.val (.int t1))) (sl : dCut H x none (some 12) = some (.lst zs))
    (lp : forL none (bodyF (cF tb N j) N (.name 3) b__law_well_1) zs [some x, some (.int lap), some (.int (430307 + t1)), none, none] H = some (.nx [some x, some (.int lap), some (.int v), z3, none] H))
    (ln : dBI H .len [x] = some (.val (.int L))) (lt : decide (lap < L) = true) (ix : dIx H x (.int lap) = some (.int own)) {e t5 t6 t7 : Int} (b1 : dBin H .mul (.int v) (.int 61) = some (.val (.int t5))) (b2 : dBin H .mod (.int own) (.int 2147483477) = some (.val (.int t6)))
    (b3 : dBin H .mul (.int t6) (.int 28657) = some (.val (.int t7))) (b4 : dBin H .mod (.int (t5 + t7 + 11)) (.int 2147483477) = some (.val (.int v2))) (b5 : dBin H .pow (.int 10) (.int 15) = some (.val (.int e)))
    (c : (decide (own < 0) = true ∧ dBI H .abs [.int own] = some (.val (.int a))) ∨ (decide (own < 0) = false ∧ decide (e ≤ own) = true ∧ dBI H .abs [.int own] = some (.val (.int a))) ∨ (decide (own < 0) = false ∧ decide (e ≤ own) = false ∧ a = 0)) :
    runB true (dSs (cF tb N j) N b__law_well ([x, .int lap].map some ++ List.replicate (5 - [x, D.int lap].length) none) H) H = fin true H (H ++ [.lst [.int a, .int v2, .int 0]]) (.ref H.length) := by
  rcases c with ⟨c1, c2⟩ | ⟨c1, c2, c3⟩ | ⟨c1, c2, rfl⟩
  · simp only [b__law_well, dSs, dS_expr, dS_ret, dS_retN, dS_asg, dS_par, dS_aug, dS_ite, dS_for, dS_wh, dS_pass, dS_brk, dS_cnt, dP, dPs, dI, dG, dGs, dB, cSeq, cRet, cExpr, cAsg, cPar, setAll, cAug, augI, cIte, aVar, aC, tst, aTup, aLst, aBin, aNeg, aCmp, aChain, aNot, aIte, aIx, aO, aSl, aCall, aCallk, aBi, aMeth, aFin, aEl, aOT, aSeq, aRange1_eq, aEnum, aZip, wipeE, List.foldl_cons, List.foldl_nil, aCons, aStar, aAndV, aOrV, aAnd, aOr, aNotT, gNm, gTp, gNl, gCn, Rz.fin, truth, dc_eq_int, dc_ne_int, dc_eq_fr, dc_eq_str, dc_ne_str, dc_lt, dc_le, dc_gt, dc_ge, dc_is, dc_isn, List.getElem?_cons_zero, List.getElem?_cons_succ, List.set_cons_zero, List.set_cons_succ, List.map_cons, List.map_nil, List.length_cons, List.length_nil, List.replicate, List.cons_append, List.nil_append, List.append_nil, Nat.reduceAdd, Nat.reduceSub, Nat.sub_self, Nat.reduceLeDiff, if_true, if_false, Bool.false_eq_true, reduceIte, Int.cast_ofNat_Int, eq_self, decide_true, decide_false, Bool.not_true, Bool.not_false, Bool.and_self, Bool.and_true, Bool.true_and, Bool.and_false, Bool.false_and, Bool.or_false, Bool.false_or, Bool.or_true, Bool.true_or, isi1, isi2, isi3, isi4, isi5, isi6, ok_int, deq_int, view_int, view_fr, view_str, ok_fr, eq_fr, view_tup, view_lst, ty_fr, tyN, List.any_cons, List.any_nil, atI_0, atI_1, atI_2, atI_3, atI_n, most, runB_rt, runB_nx, fin_same, seqOf, lstOf, m0, sl, lp, ln, lt, ix, b1, b2, b3, b4, b5, c1, c2, dbi_int, db_add]
  · simp only [b__law_well, dSs, dS_expr, dS_ret, dS_retN, dS_asg, dS_par, dS_aug, dS_ite, dS_for, dS_wh, dS_pass, dS_brk, dS_cnt, dP, dPs, dI, dG, dGs, dB, cSeq, cRet, cExpr, cAsg, cPar, setAll, cAug, augI, cIte, aVar, aC, tst, aTup, aLst, aBin, aNeg, aCmp, aChain, aNot, aIte, aIx, aO, aSl, aCall, aCallk, aBi, aMeth, aFin, aEl, aOT, aSeq, aRange1_eq, aEnum, aZip, wipeE, List.foldl_cons, List.foldl_nil, aCons, aStar, aAndV, aOrV, aAnd, aOr, aNotT, gNm, gTp, gNl, gCn, Rz.fin, truth, dc_eq_int, dc_ne_int, dc_eq_fr, dc_eq_str, dc_ne_str, dc_lt, dc_le, dc_gt, dc_ge, dc_is, dc_isn, List.getElem?_cons_zero, List.getElem?_cons_succ, List.set_cons_zero, List.set_cons_succ, List.map_cons, List.map_nil, List.length_cons, List.length_nil, List.replicate, List.cons_append, List.nil_append, List.append_nil, Nat.reduceAdd, Nat.reduceSub, Nat.sub_self, Nat.reduceLeDiff, if_true, if_false, Bool.false_eq_true, reduceIte, Int.cast_ofNat_Int, eq_self, decide_true, decide_false, Bool.not_true, Bool.not_false, Bool.and_self, Bool.and_true, Bool.true_and, Bool.and_false, Bool.false_and, Bool.or_false, Bool.false_or, Bool.or_true, Bool.true_or, isi1, isi2, isi3, isi4, isi5, isi6, ok_int, deq_int, view_int, view_fr, view_str, ok_fr, eq_fr, view_tup, view_lst, ty_fr, tyN, List.any_cons, List.any_nil, atI_0, atI_1, atI_2, atI_3, atI_n, most, runB_rt, runB_nx, fin_same, seqOf, lstOf, m0, sl, lp, ln, lt, ix, b1, b2, b3, b4, b5, c1, c2, c3, dbi_int, db_add]
  · simp only [b__law_well, dSs, dS_expr, dS_ret, dS_retN, dS_asg, dS_par, dS_aug, dS_ite, dS_for, dS_wh, dS_pass, dS_brk, dS_cnt, dP, dPs, dI, dG, dGs, dB, cSeq, cRet, cExpr, cAsg, cPar, setAll, cAug, augI, cIte, aVar, aC, tst, aTup, aLst, aBin, aNeg, aCmp, aChain, aNot, aIte, aIx, aO, aSl, aCall, aCallk, aBi, aMeth, aFin, aEl, aOT, aSeq, aRange1_eq, aEnum, aZip, wipeE, List.foldl_cons, List.foldl_nil, aCons, aStar, aAndV, aOrV, aAnd, aOr, aNotT, gNm, gTp, gNl, gCn, Rz.fin, truth, dc_eq_int, dc_ne_int, dc_eq_fr, dc_eq_str, dc_ne_str, dc_lt, dc_le, dc_gt, dc_ge, dc_is, dc_isn, List.getElem?_cons_zero, List.getElem?_cons_succ, List.set_cons_zero, List.set_cons_succ, List.map_cons, List.map_nil, List.length_cons, List.length_nil, List.replicate, List.cons_append, List.nil_append, List.append_nil, Nat.reduceAdd, Nat.reduceSub, Nat.sub_self, Nat.reduceLeDiff, if_true, if_false, Bool.false_eq_true, reduceIte, Int.cast_ofNat_Int, eq_self, decide_true, decide_false, Bool.not_true, Bool.not_false, Bool.and_self, Bool.and_true, Bool.true_and, Bool.and_false, Bool.false_and, Bool.or_false, Bool.false_or, Bool.or_true, Bool.true_or, isi1, isi2, isi3, isi4, isi5, isi6, ok_int, deq_int, view_int, view_fr, view_str, ok_fr, eq_fr, view_tup, view_lst, ty_fr, tyN, List.any_cons, List.any_nil, atI_0, atI_1, atI_2, atI_3, atI_n, most, runB_rt, runB_nx, fin_same, seqOf, lstOf, m0, sl, lp, ln, lt, ix, b1, b2, b3, b4, b5, c1, c2, dbi_int, db_add]
theorem run_wellB (m0 : dBin H .mul (.int 6841) (.int lap) = some (.val (.int t1))) (sl : dCut H x none (some 12) = some (.lst zs))
    (lp : forL none (bodyF (cF tb N j) N (.name 3) b__law_well_1) zs [some x, some (.int lap), some (.int (430307 + t1)), none, none] H = some (.nx [some x, some (.int lap), some (.int v), z3, none] H))
    (ln : dBI H .len [x] = some (.val (.int L))) (lt : decide (lap < L) = false) {e t5 t6 t7 : Int} (b1 : dBin H .mul (.int v) (.int 61) = some (.val (.int t5))) (b2 : dBin H .mod (.int 0) (.int 2147483477) = some (.val (.int t6)))
    (b3 : dBin H .mul (.int t6) (.int 28657) = some (.val (.int t7))) (b4 : dBin H .mod (.int (t5 + t7 + 11)) (.int 2147483477) = some (.val (.int v2))) (b5 : dBin H .pow (.int 10) (.int 15) = some (.val (.int e)))
    (c1 : decide ((0 : Int) < 0) = false) (c2 : decide (e ≤ 0) = false) :
    runB true (dSs (cF tb N j) N b__law_well ([x, .int lap].map some ++ List.replicate (5 - [x, D.int lap].length) none) H) H = fin true H (H ++ [.lst [.int 0, .int v2, .int 0]]) (.ref H.length) := by
  simp only [b__law_well, dSs, dS_expr, dS_ret, dS_retN, dS_asg, dS_par, dS_aug, dS_ite, dS_for, dS_wh, dS_pass, dS_brk, dS_cnt, dP, dPs, dI, dG, dGs, dB, cSeq, cRet, cExpr, cAsg, cPar, setAll, cAug, augI, cIte, aVar, aC, tst, aTup, aLst, aBin, aNeg, aCmp, aChain, aNot, aIte, aIx, aO, aSl, aCall, aCallk, aBi, aMeth, aFin, aEl, aOT, aSeq, aRange1_eq, aEnum, aZip, wipeE, List.foldl_cons, List.foldl_nil, aCons, aStar, aAndV, aOrV, aAnd, aOr, aNotT, gNm, gTp, gNl, gCn, Rz.fin, truth, dc_eq_int, dc_ne_int, dc_eq_fr, dc_eq_str, dc_ne_str, dc_lt, dc_le, dc_gt, dc_ge, dc_is, dc_isn, List.getElem?_cons_zero, List.getElem?_cons_succ, List.set_cons_zero, List.set_cons_succ, List.map_cons, List.map_nil, List.length_cons, List.length_nil, List.replicate, List.cons_append, List.nil_append, List.append_nil, Nat.reduceAdd, Nat.reduceSub, Nat.sub_self, Nat.reduceLeDiff, if_true, if_false, Bool.false_eq_true, reduceIte, Int.cast_ofNat_Int, eq_self, decide_true, decide_false, Bool.not_true, Bool.not_false, Bool.and_self, Bool.and_true, Bool.true_and, Bool.and_false, Bool.false_and, Bool.or_false, Bool.false_or, Bool.or_true, Bool.true_or, isi1, isi2, isi3, isi4, isi5, isi6, ok_int, deq_int, view_int, view_fr, view_str, ok_fr, eq_fr, view_tup, view_lst, ty_fr, tyN, List.any_cons, List.any_nil, atI_0, atI_1, atI_2, atI_3, atI_n, most, runB_rt, runB_nx, fin_same, seqOf, lstOf, m0, sl, lp, ln, lt, b1, b2, b3, b4, b5, c1, c2, dbi_int, db_add]
end
theorem fin_keep {H : AH} {ao : AO} (hb : ao.bel H.length = true) : fin true H (H ++ [ao]) (.ref H.length) = some (.ref H.length, H ++ [ao]) := by
  unfold fin
  have l2 : (H ++ [ao]).length = H.length + 1 := by rw [List.length_append] <;> rfl
  have ok : oldOk H (H ++ [ao]) := by
    intro k o hk e
    rw [List.getElem?_append_left hk] at e
    exact .inl e
  rw [if_neg (by rw [l2]; omega), if_pos ok]
  simp only [if_true]
  rw [if_pos (Nat.le_refl _), List.getElem?_append_right (Nat.le_refl _), Nat.sub_self]
  simp only [List.getElem?_cons_zero, hb, if_true]
  rw [List.take_left]
theorem db_mul {a b : Int} (k : mulOk a b = true) : dBin h .mul (.int a) (.int b) = some (.val (.int (a * b))) := by
  unfold dBin
  simp only [k, if_true]
theorem db_mod {a b : Int} (k : b ≠ 0) : dBin h .mod (.int a) (.int b) = some (.val (.int (a.fmod b))) := by
  unfold dBin
  simp only [ne_eq, k, not_false_eq_true, if_true]
theorem db_15 : dBin h .pow (.int 10) (.int 15) = some (.val (.int 1000000000000000)) := by
  unfold dBin
  simp only
  rw [if_pos (by decide)] <;> rfl
theorem loop_well {j : Nat} {x y : D} {v : Int} {zs : List D} (hz : ∀ d ∈ zs, ∃ z : Int, d = .int z) (v0 : 0 ≤ v) (v1 : v < 2147483477) :
    ∃ (v' : Int) (z3 : Option D), forL none (bodyF (cF tb N j) N (.name 3) b__law_well_1) zs [some x, some y, some (.int v), none, none] h = some (.nx [some x, some y, some (.int v'), z3, none] h) ∧ 0 ≤ v' ∧ v' < 2147483477 := by
  obtain ⟨e', H', lp, v', z3, rfl, rfl, a, b⟩ := forL_inv (f := bodyF (cF tb N j) N (.name 3) b__law_well_1)
    (fun pre e H => ∃ (v : Int) (z3 : Option D), e = [some x, some y, some (.int v), z3, none] ∧ H = h ∧ 0 ≤ v ∧ v < 2147483477)
    (ds := zs) [] (e := [some x, some y, some (.int v), none, none]) (h := h) ⟨v, none, rfl, rfl, v0, v1⟩ fun a d pb e H eq ih => by
      obtain ⟨v, z3, rfl, rfl, v0, v1⟩ := ih
      obtain ⟨z, rfl⟩ := hz d (by rw [← List.nil_append zs, ← eq]; exact List.mem_append_right _ List.mem_cons_self)
      have r := fm_lt (a := z) (b := 2147483477) (by decide)
      have r2 := fm_lt (a := v * 48889 + z.fmod 2147483477 * 5 + 23) (b := 2147483477) (by decide)
      exact ⟨_, _, .inl (step_well (db_mul (mulOk_of (a := 40) (b := 40) (by omega) (by decide) (by decide))) (db_mod (by decide)) (db_mul (mulOk_of (a := 40) (b := 40) (by omega) (by decide) (by decide))) (db_mod (by decide))), _, _, rfl, rfl, r2.1, r2.2⟩
  exact ⟨v', z3, lp, a, b⟩
theorem D_well {ns : List Int} {lap : Nat} (hK : 1 ≤ K) (hl : lap ≤ 1000) :
    ∃ w, cF tb N K "_law_well" [.scr ns, .int lap] h = some (.ref h.length, h ++ [wD w]) ∧ WOk 0 w := by
  obtain ⟨j, rfl, hj⟩ := dep hK
  rw [call_at lk__law_well (by rfl)]
  have m0 := db_mul (h := h) (a := 6841) (b := (lap : Int)) (mulOk_of (a := 40) (b := 40) (by decide) (by omega) (by decide))
  obtain ⟨v, z3, lp, v0, v1⟩ := loop_well (N := N) (h := h) (j := j) (x := .scr ns) (y := .int lap) (v := 430307 + 6841 * (lap : Int)) (zs := cut (ns.map .int) none (some 12)) (fun d hd => by
    unfold cut at hd
    obtain ⟨z, hz, rfl⟩ := List.mem_map.mp (List.mem_of_mem_drop (List.mem_of_mem_take hd))
    exact ⟨z, rfl⟩) (by omega) (by omega)
  have b1 := db_mul (h := h) (a := v) (b := 61) (mulOk_of (a := 40) (b := 40) (by omega) (by decide) (by decide))
  have sl : dCut h (.scr ns) none (some 12) = some (.lst (cut (ns.map .int) none (some 12))) := rfl
  have ln : dBI h .len [.scr ns] = some (.val (.int (ns.length : Nat))) := by
    unfold dBI dB1 seqOf
    simp only [List.length_map]
  have bel : ∀ a b c : Int, (AO.lst [.int a, .int b, .int c]).bel h.length = true := fun _ _ _ => rfl
  by_cases lt : lap < ns.length
  · have ix : dIx h (.scr ns) (.int lap) = some (.int ns[lap]) := by
      unfold dIx seqOf
      simp only [atI_n]
      rw [List.getElem?_map, List.getElem?_eq_getElem lt] <;> rfl
    generalize ns[lap] = own at ix
    have r := fm_lt (a := own) (b := 2147483477) (by decide)
    have b2 := db_mod (h := h) (a := own) (b := 2147483477) (by decide)
    have b3 := db_mul (h := h) (a := own.fmod 2147483477) (b := 28657) (mulOk_of (a := 40) (b := 40) (by omega) (by decide) (by decide))
    have b4 := db_mod (h := h) (a := v * 61 + own.fmod 2147483477 * 28657 + 11) (b := 2147483477) (by decide)
    have r2 := fm_lt (a := v * 61 + own.fmod 2147483477 * 28657 + 11) (b := 2147483477) (by decide)
    have ab : dBI h .abs [.int own] = some (.val (.int (if own < 0 then -own else own))) := rfl
    have fin_ : ∀ a : Int, 0 ≤ a → ((decide (own < 0) = true ∧ dBI h .abs [.int own] = some (.val (.int a))) ∨ (decide (own < 0) = false ∧ decide ((1000000000000000 : Int) ≤ own) = true ∧ dBI h .abs [.int own] = some (.val (.int a))) ∨ (decide (own < 0) = false ∧ decide ((1000000000000000 : Int) ≤ own) = false ∧ a = 0)) →
        ∃ w, runB true (dSs (cF tb N j) N b__law_well ([.scr ns, .int lap].map some ++ List.replicate (5 - [D.scr ns, D.int lap].length) none) h) h = some (.ref h.length, h ++ [wD w]) ∧ WOk 0 w := fun a a0 c => by
      refine ⟨⟨a, _, 0⟩, ?_, ⟨a0, r2.1, r2.2, Int.le_refl _, Int.le_refl _⟩⟩
      rw [run_wellA m0 sl lp ln (by rw [decide_eq_true_eq]; omega) ix b1 b2 b3 b4 db_15 c, fin_keep (bel _ _ _)] <;> rfl
    by_cases s1 : own < 0
    · rw [if_pos s1] at ab
      exact fin_ (-own) (by omega) (.inl ⟨by rw [decide_eq_true_eq]; exact s1, ab⟩)
    · rw [if_neg s1] at ab
      have f1 : decide (own < 0) = false := by rw [decide_eq_false_iff_not]; exact s1
      by_cases s2 : (1000000000000000 : Int) ≤ own
      · exact fin_ own (by omega) (.inr (.inl ⟨f1, by rw [decide_eq_true_eq]; exact s2, ab⟩))
      · exact fin_ 0 (by omega) (.inr (.inr ⟨f1, by rw [decide_eq_false_iff_not]; exact s2, rfl⟩))
  · have b2 := db_mod (h := h) (a := 0) (b := 2147483477) (by decide)
    have z0 : (0 : Int).fmod 2147483477 = 0 := rfl
    rw [z0] at b2
    have b3 := db_mul (h := h) (a := 0) (b := 28657) (by decide)
    have b4 := db_mod (h := h) (a := v * 61 + 0 * 28657 + 11) (b := 2147483477) (by decide)
    have r2 := fm_lt (a := v * 61 + 0 * 28657 + 11) (b := 2147483477) (by decide)
    refine ⟨⟨0, _, 0⟩, ?_, ⟨Int.le_refl _, r2.1, r2.2, Int.le_refl _, Int.le_refl _⟩⟩
    rw [run_wellB m0 sl lp ln (by rw [decide_eq_false_iff_not]; omega) b1 b2 b3 b4 db_15 (by decide) (by decide), fin_keep (bel _ _ _)] <;> rfl
end Row
namespace Row
open PySem PySem.Spec PyProof.Rows L2 Ev
variable {N K : Nat} {h : AH}
theorem run_law {j : Nat} {x : D} {L : Int} {l xs : List D} {H1 : AH} (q : dGn (cF tb N j) g_law_1 [some x, none] h = some (xs, H1)) (al : dBI H1 .all [.lst xs] = some (.val (.bl true))) (fn : fin false h H1 (.bl true) = some (.bl true, [])) :
    runB false (dSs (cF tb N j) N b_law ([x].map some ++ List.replicate (2 - [x].length) none) h) h = some (.bl true, []) := by
  simp only [b_law, dSs, dS_expr, dS_ret, dS_retN, dS_asg, dS_par, dS_aug, dS_ite, dS_for, dS_wh, dS_pass, dS_brk, dS_cnt, dP, dPs, dI, dG, dGs, dB, cSeq, cRet, cExpr, cAsg, cPar, setAll, cAug, augI, cIte, aVar, aC, tst, aTup, aLst, aBin, aNeg, aCmp, aChain, aNot, aIte, aIx, aO, aSl, dCut, aCall, aCallk, aBi, aMeth, aFin, aEl, aOT, aSeq, aRange1_eq, aEnum, aZip, wipeE, List.foldl_cons, List.foldl_nil, aCons, aStar, aAndV, aOrV, aAnd, aOr, aNotT, gNm, gTp, gNl, gCn, Rz.fin, truth, dc_eq_int, dc_ne_int, dc_eq_fr, dc_eq_str, dc_ne_str, dc_lt, dc_le, dc_gt, dc_ge, dc_is, dc_isn, List.getElem?_cons_zero, List.getElem?_cons_succ, List.set_cons_zero, List.set_cons_succ, List.map_cons, List.map_nil, List.length_cons, List.length_nil, List.replicate, List.cons_append, List.nil_append, List.append_nil, Nat.reduceAdd, Nat.reduceSub, Nat.sub_self, Nat.reduceLeDiff, if_true, if_false, Bool.false_eq_true, reduceIte, Int.cast_ofNat_Int, eq_self, decide_true, decide_false, Bool.not_true, Bool.not_false, Bool.and_self, Bool.and_true, Bool.true_and, Bool.and_false, Bool.false_and, Bool.or_false, Bool.false_or, Bool.or_true, Bool.true_or, isi1, isi2, isi3, isi4, isi5, isi6, ok_int, deq_int, view_int, view_fr, view_str, ok_fr, eq_fr, view_tup, view_lst, ty_fr, tyN, List.any_cons, List.any_nil, atI_0, atI_1, atI_2, atI_3, atI_n, most, runB_rt, runB_nx, fin_same, q, al, fn]
theorem turn_law {j : Nat} {x d p : D} {b : D} {H H1 H2 : AH} {e1 : Option D} (c1 : cF tb N j "_law_well" [x, d] H = some (p, H1)) (c2 : cF tb N j "_law_right" [p] H1 = some (b, H2)) :
    gnF (cF tb N j) g_law_1 [some x, e1] d H = some ([b], H2) := by
  simp only [gnF, g_law_1, dSs, dS_expr, dS_ret, dS_retN, dS_asg, dS_par, dS_aug, dS_ite, dS_for, dS_wh, dS_pass, dS_brk, dS_cnt, dP, dPs, dI, dG, dGs, dB, cSeq, cRet, cExpr, cAsg, cPar, setAll, cAug, augI, cIte, aVar, aC, tst, aTup, aLst, aBin, aNeg, aCmp, aChain, aNot, aIte, aIx, aO, aSl, dCut, aCall, aCallk, aBi, aMeth, aFin, aEl, aOT, aSeq, aRange1_eq, aEnum, aZip, wipeE, List.foldl_cons, List.foldl_nil, aCons, aStar, aAndV, aOrV, aAnd, aOr, aNotT, gNm, gTp, gNl, gCn, Rz.fin, truth, dc_eq_int, dc_ne_int, dc_eq_fr, dc_eq_str, dc_ne_str, dc_lt, dc_le, dc_gt, dc_ge, dc_is, dc_isn, List.getElem?_cons_zero, List.getElem?_cons_succ, List.set_cons_zero, List.set_cons_succ, List.map_cons, List.map_nil, List.length_cons, List.length_nil, List.replicate, List.cons_append, List.nil_append, List.append_nil, Nat.reduceAdd, Nat.reduceSub, Nat.sub_self, Nat.reduceLeDiff, if_true, if_false, Bool.false_eq_true, reduceIte, Int.cast_ofNat_Int, eq_self, decide_true, decide_false, Bool.not_true, Bool.not_false, Bool.and_self, Bool.and_true, Bool.true_and, Bool.and_false, Bool.false_and, Bool.or_false, Bool.false_or, Bool.or_true, Bool.true_or, isi1, isi2, isi3, isi4, isi5, isi6, ok_int, deq_int, view_int, view_fr, view_str, ok_fr, eq_fr, view_tup, view_lst, ty_fr, tyN, List.any_cons, List.any_nil, atI_0, atI_1, atI_2, atI_3, atI_n, most, runB_rt, runB_nx, fin_same, c1, c2]
theorem all_true : ∀ n : Nat, bls (List.replicate n (D.bl true)) = some (List.replicate n true)
  | 0 => rfl
  | n + 1 => by
    rw [List.replicate_succ, List.replicate_succ]
    unfold bls
    rw [all_true n] <;> rfl
theorem src_law {j : Nat} {ns : List Int} {e1 : Option D} (hn : ns.length ≤ 63) : ∃ n : Nat, n ≤ 1000 ∧ gnS (cF tb N j) g_law_1 [some (.scr ns), e1] h = some ((List.range n).map fun i => .int (i : Nat), none, h) := by
  have ln : dBI h .len [.scr ns] = some (.val (.int (ns.length : Nat))) := by
    unfold dBI dB1 seqOf
    simp only [List.length_map]
  obtain ⟨a, ha, m1⟩ : ∃ a : Nat, a ≤ 64 ∧ dBI h .min2 [.int (ns.length : Nat), .int 4] = some (.val (.int a)) := by
    refine ⟨min ns.length 4, by omega, ?_⟩
    unfold dBI dB2
    simp only
    by_cases z : (4 : Int) < (ns.length : Nat)
    · rw [if_pos z, Nat.min_eq_right (by omega)] <;> rfl
    · rw [if_neg z, Nat.min_eq_left (by omega)]
  obtain ⟨b, hb, m2⟩ : ∃ b : Nat, b ≤ 64 ∧ dBI h .max2 [.int 2, .int a] = some (.val (.int b)) := by
    refine ⟨max 2 a, by omega, ?_⟩
    unfold dBI dB2
    simp only
    by_cases z : (a : Int) > 2
    · rw [if_pos z, Nat.max_eq_right (by omega)]
    · rw [if_neg z, Nat.max_eq_left (by omega)] <;> rfl
  refine ⟨b, by omega, ?_⟩
  have rn := rng1_nat (h := h) (n := b) (by omega)
  rw [gs_law_1, ← rn]
  simp only [dI, dP, dPs, aBi, aCons, aC, aRange1_eq, aVar, List.getElem?_cons_zero, List.getElem?_cons_succ, ln, m1, m2, Rz.fin, Bool.false_eq_true, if_false]
theorem val_law (ns : List Int) (h1 : ns.length ≤ 63) (h2 : ∀ z ∈ ns, Builtin.Int.intBits z ≤ 1048576) : ∃ h', cF tb 1000000 60 "law" [.scr ns] [] = some (.bl true, h') := by
  obtain ⟨n, hn, src⟩ := src_law (N := 1000000) (j := 59) (h := []) (e1 := none) h1
  obtain ⟨acc, H, lc, e⟩ := lcL_inv (f := gnF (cF tb 1000000 59) g_law_1 [some (.scr ns), none]) (fun pre acc H => acc = List.replicate pre.length (D.bl true))
    (ds := (List.range n).map fun i => .int (i : Nat)) [] (acc := []) (h := []) rfl (by unfold most; simp only [List.length_nil, List.length_map, List.length_range]; omega) fun a d b acc H eq ih => by
      subst ih
      have dm : d ∈ (List.range n).map fun i => D.int (i : Nat) := by
        rw [← List.nil_append ((List.range n).map fun i => D.int (i : Nat)), ← eq]
        exact List.mem_append_right _ List.mem_cons_self
      obtain ⟨s, hs, rfl⟩ := List.mem_map.mp dm
      rw [List.mem_range] at hs
      obtain ⟨w, c1, k⟩ := D_well (N := 1000000) (K := 59) (h := H) (ns := ns) (lap := s) (by decide) (by omega)
      have hi : H.length < (H ++ [wD w]).length := by rw [List.length_append]; simp only [List.length_cons, List.length_nil]; omega
      obtain ⟨w', c2, k2⟩ := D_right (N := 1000000) (K := 59) (h := H ++ [wD w]) (i := H.length) (w := w) (by decide) (by decide) hi k (by omega)
      have es : (H ++ [wD w]).set H.length (wD w) = H ++ [wD w] := by
        rw [List.set_append_right _ _ (Nat.le_refl _), Nat.sub_self] <;> rfl
      rw [es] at c2
      refine ⟨_, _, turn_law c1 c2, ?_⟩
      rw [List.length_append, List.length_cons, List.length_nil, Nat.zero_add, List.replicate_succ'] 
  subst e
  refine ⟨[], ?_⟩
  rw [call_at lk_law (by rfl)]
  have al : dBI H .all [.lst (List.replicate ([] ++ (List.range n).map fun i => D.int (i : Nat)).length (D.bl true))] = some (.val (.bl true)) := by
    unfold dBI dB1 lstOf
    simp only [all_true]
    rw [List.all_replicate]
    simp
  have fn : fin false [] H (.bl true) = some (.bl true, []) := by
    unfold fin
    by_cases z : H.length = ([] : AH).length
    · rw [if_pos z]
      have : H = [] := List.length_eq_zero_iff.1 z
      rw [this]
    · have ok : oldOk [] H := fun k ao hk => absurd hk (Nat.not_lt_zero k)
      rw [if_neg z, if_pos ok]
      rfl
  exact run_law (L := 0) (l := []) (gn_of src lc) al fn
end Row
namespace Row
open PySem PySem.Spec PyProof.Rows L2 Ev
theorem bd_is_whole : ∀ (kV dc pm : Value) (an : Option Addr) (cd ct : Value) (us : List Value), us.length = 1 → bindArgs (PySem.W.fnOf "is_whole" "is_whole" (defArgs (topS 8)) (defBody (topS 8)) (defScope (topS 8)) .none kV dc pm an cd ct) ⟨us, []⟩ = pure ((["value"] : List Str).zip us) := fun _ _ _ _ _ _ us hl => match us, hl with | [_], _ => rfl
theorem bd_is_between : ∀ (kV dc pm : Value) (an : Option Addr) (cd ct : Value) (us : List Value), us.length = 3 → bindArgs (PySem.W.fnOf "is_between" "is_between" (defArgs (topS 9)) (defBody (topS 9)) (defScope (topS 9)) .none kV dc pm an cd ct) ⟨us, []⟩ = pure ((["value", "low", "high"] : List Str).zip us) := fun _ _ _ _ _ _ us hl => match us, hl with | [_, _, _], _ => rfl
theorem bd_is_tuple_of : ∀ (kV dc pm : Value) (an : Option Addr) (cd ct : Value) (us : List Value), us.length = 2 → bindArgs (PySem.W.fnOf "is_tuple_of" "is_tuple_of" (defArgs (topS 10)) (defBody (topS 10)) (defScope (topS 10)) .none kV dc pm an cd ct) ⟨us, []⟩ = pure ((["value", "many"] : List Str).zip us) := fun _ _ _ _ _ _ us hl => match us, hl with | [_, _], _ => rfl
theorem bd_is_ratio : ∀ (kV dc pm : Value) (an : Option Addr) (cd ct : Value) (us : List Value), us.length = 1 → bindArgs (PySem.W.fnOf "is_ratio" "is_ratio" (defArgs (topS 14)) (defBody (topS 14)) (defScope (topS 14)) .none kV dc pm an cd ct) ⟨us, []⟩ = pure ((["value"] : List Str).zip us) := fun _ _ _ _ _ _ us hl => match us, hl with | [_], _ => rfl
theorem bd_ratio : ∀ (kV dc pm : Value) (an : Option Addr) (cd ct : Value) (us : List Value), us.length = 2 → bindArgs (PySem.W.fnOf "ratio" "ratio" (defArgs (topS 15)) (defBody (topS 15)) (defScope (topS 15)) .none kV dc pm an cd ct) ⟨us, []⟩ = pure ((["top", "low"] : List Str).zip us) := fun _ _ _ _ _ _ us hl => match us, hl with | [_, _], _ => rfl
theorem bd_plus : ∀ (kV dc pm : Value) (an : Option Addr) (cd ct : Value) (us : List Value), us.length = 2 → bindArgs (PySem.W.fnOf "plus" "plus" (defArgs (topS 16)) (defBody (topS 16)) (defScope (topS 16)) .none kV dc pm an cd ct) ⟨us, []⟩ = pure ((["one", "two"] : List Str).zip us) := fun _ _ _ _ _ _ us hl => match us, hl with | [_, _], _ => rfl
theorem bd_times : ∀ (kV dc pm : Value) (an : Option Addr) (cd ct : Value) (us : List Value), us.length = 2 → bindArgs (PySem.W.fnOf "times" "times" (defArgs (topS 17)) (defBody (topS 17)) (defScope (topS 17)) .none kV dc pm an cd ct) ⟨us, []⟩ = pure ((["one", "two"] : List Str).zip us) := fun _ _ _ _ _ _ us hl => match us, hl with | [_, _], _ => rfl
theorem bd_is_less : ∀ (kV dc pm : Value) (an : Option Addr) (cd ct : Value) (us : List Value), us.length = 2 → bindArgs (PySem.W.fnOf "is_less" "is_less" (defArgs (topS 18)) (defBody (topS 18)) (defScope (topS 18)) .none kV dc pm an cd ct) ⟨us, []⟩ = pure ((["one", "two"] : List Str).zip us) := fun _ _ _ _ _ _ us hl => match us, hl with | [_, _], _ => rfl
theorem bd_total : ∀ (kV dc pm : Value) (an : Option Addr) (cd ct : Value) (us : List Value), us.length = 1 → bindArgs (PySem.W.fnOf "total" "total" (defArgs (topS 19)) (defBody (topS 19)) (defScope (topS 19)) .none kV dc pm an cd ct) ⟨us, []⟩ = pure ((["fractions"] : List Str).zip us) := fun _ _ _ _ _ _ us hl => match us, hl with | [_], _ => rfl
theorem bd_dot : ∀ (kV dc pm : Value) (an : Option Addr) (cd ct : Value) (us : List Value), us.length = 2 → bindArgs (PySem.W.fnOf "dot" "dot" (defArgs (topS 20)) (defBody (topS 20)) (defScope (topS 20)) .none kV dc pm an cd ct) ⟨us, []⟩ = pure ((["one", "two"] : List Str).zip us) := fun _ _ _ _ _ _ us hl => match us, hl with | [_, _], _ => rfl
theorem bd_greatest_of : ∀ (kV dc pm : Value) (an : Option Addr) (cd ct : Value) (us : List Value), us.length = 1 → bindArgs (PySem.W.fnOf "greatest_of" "greatest_of" (defArgs (topS 21)) (defBody (topS 21)) (defScope (topS 21)) .none kV dc pm an cd ct) ⟨us, []⟩ = pure ((["fractions"] : List Str).zip us) := fun _ _ _ _ _ _ us hl => match us, hl with | [_], _ => rfl
theorem bd_is_row : ∀ (kV dc pm : Value) (an : Option Addr) (cd ct : Value) (us : List Value), us.length = 2 → bindArgs (PySem.W.fnOf "is_row" "is_row" (defArgs (topS 22)) (defBody (topS 22)) (defScope (topS 22)) .none kV dc pm an cd ct) ⟨us, []⟩ = pure ((["value", "many"] : List Str).zip us) := fun _ _ _ _ _ _ us hl => match us, hl with | [_, _], _ => rfl
theorem bd_are_rows : ∀ (kV dc pm : Value) (an : Option Addr) (cd ct : Value) (us : List Value), us.length = 3 → bindArgs (PySem.W.fnOf "are_rows" "are_rows" (defArgs (topS 26)) (defBody (topS 26)) (defScope (topS 26)) .none kV dc pm an cd ct) ⟨us, []⟩ = pure ((["value", "actions", "states"] : List Str).zip us) := fun _ _ _ _ _ _ us hl => match us, hl with | [_, _, _], _ => rfl
theorem bd_is_setting_by : ∀ (kV dc pm : Value) (an : Option Addr) (cd ct : Value) (us : List Value), us.length = 1 → bindArgs (PySem.W.fnOf "is_setting_by" "is_setting_by" (defArgs (topS 27)) (defBody (topS 27)) (defScope (topS 27)) .none kV dc pm an cd ct) ⟨us, []⟩ = pure ((["value"] : List Str).zip us) := fun _ _ _ _ _ _ us hl => match us, hl with | [_], _ => rfl
theorem bd_many_states : ∀ (kV dc pm : Value) (an : Option Addr) (cd ct : Value) (us : List Value), us.length = 1 → bindArgs (PySem.W.fnOf "many_states" "many_states" (defArgs (topS 28)) (defBody (topS 28)) (defScope (topS 28)) .none kV dc pm an cd ct) ⟨us, []⟩ = pure ((["setting"] : List Str).zip us) := fun _ _ _ _ _ _ us hl => match us, hl with | [_], _ => rfl
theorem bd_many_actions : ∀ (kV dc pm : Value) (an : Option Addr) (cd ct : Value) (us : List Value), us.length = 1 → bindArgs (PySem.W.fnOf "many_actions" "many_actions" (defArgs (topS 29)) (defBody (topS 29)) (defScope (topS 29)) .none kV dc pm an cd ct) ⟨us, []⟩ = pure ((["setting"] : List Str).zip us) := fun _ _ _ _ _ _ us hl => match us, hl with | [_], _ => rfl
theorem bd_is_mix_of : ∀ (kV dc pm : Value) (an : Option Addr) (cd ct : Value) (us : List Value), us.length = 2 → bindArgs (PySem.W.fnOf "is_mix_of" "is_mix_of" (defArgs (topS 30)) (defBody (topS 30)) (defScope (topS 30)) .none kV dc pm an cd ct) ⟨us, []⟩ = pure ((["value", "many"] : List Str).zip us) := fun _ _ _ _ _ _ us hl => match us, hl with | [_, _], _ => rfl
theorem bd_is_belief_by : ∀ (kV dc pm : Value) (an : Option Addr) (cd ct : Value) (us : List Value), us.length = 2 → bindArgs (PySem.W.fnOf "is_belief_by" "is_belief_by" (defArgs (topS 31)) (defBody (topS 31)) (defScope (topS 31)) .none kV dc pm an cd ct) ⟨us, []⟩ = pure ((["setting", "value"] : List Str).zip us) := fun _ _ _ _ _ _ us hl => match us, hl with | [_, _], _ => rfl
theorem bd_is_action_by : ∀ (kV dc pm : Value) (an : Option Addr) (cd ct : Value) (us : List Value), us.length = 2 → bindArgs (PySem.W.fnOf "is_action_by" "is_action_by" (defArgs (topS 32)) (defBody (topS 32)) (defScope (topS 32)) .none kV dc pm an cd ct) ⟨us, []⟩ = pure ((["setting", "value"] : List Str).zip us) := fun _ _ _ _ _ _ us hl => match us, hl with | [_, _], _ => rfl
theorem bd_is_state_by : ∀ (kV dc pm : Value) (an : Option Addr) (cd ct : Value) (us : List Value), us.length = 2 → bindArgs (PySem.W.fnOf "is_state_by" "is_state_by" (defArgs (topS 33)) (defBody (topS 33)) (defScope (topS 33)) .none kV dc pm an cd ct) ⟨us, []⟩ = pure ((["setting", "value"] : List Str).zip us) := fun _ _ _ _ _ _ us hl => match us, hl with | [_, _], _ => rfl
theorem bd_sure_by : ∀ (kV dc pm : Value) (an : Option Addr) (cd ct : Value) (us : List Value), us.length = 2 → bindArgs (PySem.W.fnOf "sure_by" "sure_by" (defArgs (topS 34)) (defBody (topS 34)) (defScope (topS 34)) .none kV dc pm an cd ct) ⟨us, []⟩ = pure ((["many", "state"] : List Str).zip us) := fun _ _ _ _ _ _ us hl => match us, hl with | [_, _], _ => rfl
theorem bd_best_by : ∀ (kV dc pm : Value) (an : Option Addr) (cd ct : Value) (us : List Value), us.length = 2 → bindArgs (PySem.W.fnOf "best_by" "best_by" (defArgs (topS 35)) (defBody (topS 35)) (defScope (topS 35)) .none kV dc pm an cd ct) ⟨us, []⟩ = pure ((["setting", "belief"] : List Str).zip us) := fun _ _ _ _ _ _ us hl => match us, hl with | [_, _], _ => rfl
theorem bd_worth_by : ∀ (kV dc pm : Value) (an : Option Addr) (cd ct : Value) (us : List Value), us.length = 3 → bindArgs (PySem.W.fnOf "worth_by" "worth_by" (defArgs (topS 36)) (defBody (topS 36)) (defScope (topS 36)) .none kV dc pm an cd ct) ⟨us, []⟩ = pure ((["setting", "action", "belief"] : List Str).zip us) := fun _ _ _ _ _ _ us hl => match us, hl with | [_, _, _], _ => rfl
theorem bd_value_by : ∀ (kV dc pm : Value) (an : Option Addr) (cd ct : Value) (us : List Value), us.length = 2 → bindArgs (PySem.W.fnOf "value_by" "value_by" (defArgs (topS 37)) (defBody (topS 37)) (defScope (topS 37)) .none kV dc pm an cd ct) ⟨us, []⟩ = pure ((["setting", "belief"] : List Str).zip us) := fun _ _ _ _ _ _ us hl => match us, hl with | [_, _], _ => rfl
theorem bd_choice_by : ∀ (kV dc pm : Value) (an : Option Addr) (cd ct : Value) (us : List Value), us.length = 2 → bindArgs (PySem.W.fnOf "choice_by" "choice_by" (defArgs (topS 38)) (defBody (topS 38)) (defScope (topS 38)) .none kV dc pm an cd ct) ⟨us, []⟩ = pure ((["setting", "belief"] : List Str).zip us) := fun _ _ _ _ _ _ us hl => match us, hl with | [_, _], _ => rfl
theorem bd_check_setting : ∀ (kV dc pm : Value) (an : Option Addr) (cd ct : Value) (us : List Value), us.length = 1 → bindArgs (PySem.W.fnOf "check_setting" "check_setting" (defArgs (topS 40)) (defBody (topS 40)) (defScope (topS 40)) .none kV dc pm an cd ct) ⟨us, []⟩ = pure ((["value"] : List Str).zip us) := fun _ _ _ _ _ _ us hl => match us, hl with | [_], _ => rfl
theorem bd_check_belief : ∀ (kV dc pm : Value) (an : Option Addr) (cd ct : Value) (us : List Value), us.length = 2 → bindArgs (PySem.W.fnOf "check_belief" "check_belief" (defArgs (topS 41)) (defBody (topS 41)) (defScope (topS 41)) .none kV dc pm an cd ct) ⟨us, []⟩ = pure ((["setting", "value"] : List Str).zip us) := fun _ _ _ _ _ _ us hl => match us, hl with | [_, _], _ => rfl
theorem bd_check_believed : ∀ (kV dc pm : Value) (an : Option Addr) (cd ct : Value) (us : List Value), us.length = 2 → bindArgs (PySem.W.fnOf "check_believed" "check_believed" (defArgs (topS 42)) (defBody (topS 42)) (defScope (topS 42)) .none kV dc pm an cd ct) ⟨us, []⟩ = pure ((["setting", "belief"] : List Str).zip us) := fun _ _ _ _ _ _ us hl => match us, hl with | [_, _], _ => rfl
theorem bd_check_action : ∀ (kV dc pm : Value) (an : Option Addr) (cd ct : Value) (us : List Value), us.length = 2 → bindArgs (PySem.W.fnOf "check_action" "check_action" (defArgs (topS 43)) (defBody (topS 43)) (defScope (topS 43)) .none kV dc pm an cd ct) ⟨us, []⟩ = pure ((["setting", "value"] : List Str).zip us) := fun _ _ _ _ _ _ us hl => match us, hl with | [_, _], _ => rfl
theorem bd_check_state : ∀ (kV dc pm : Value) (an : Option Addr) (cd ct : Value) (us : List Value), us.length = 2 → bindArgs (PySem.W.fnOf "check_state" "check_state" (defArgs (topS 44)) (defBody (topS 44)) (defScope (topS 44)) .none kV dc pm an cd ct) ⟨us, []⟩ = pure ((["setting", "value"] : List Str).zip us) := fun _ _ _ _ _ _ us hl => match us, hl with | [_, _], _ => rfl
theorem bd_sure : ∀ (kV dc pm : Value) (an : Option Addr) (cd ct : Value) (us : List Value), us.length = 2 → bindArgs (PySem.W.fnOf "sure" "sure" (defArgs (topS 46)) (defBody (topS 46)) (defScope (topS 46)) .none kV dc pm an cd ct) ⟨us, []⟩ = pure ((["setting", "state"] : List Str).zip us) := fun _ _ _ _ _ _ us hl => match us, hl with | [_, _], _ => rfl
theorem kd_sure : ∀ q ∈ ([(0, ["state", "setting"], [1, 0])] : List (Nat × List Str × List Nat)), ∀ (kV dc pm : Value) (an : Option Addr) (cd ct : Value) (us ws : List Value), us.length = q.1 → ws.length = q.2.1.length → bindArgs (PySem.W.fnOf "sure" "sure" (defArgs (topS 46)) (defBody (topS 46)) (defScope (topS 46)) .none kV dc pm an cd ct) ⟨us, q.2.1.zip ws⟩ = pure ((["setting", "state"] : List Str).zip (pick q.2.2 us ws)) := fun q hq => by
  simp only [List.mem_cons, List.not_mem_nil, or_false] at hq
  subst hq
  · exact fun _ _ _ _ _ _ us ws h1 h2 => match us, ws, h1, h2 with | [], [_, _], _, _ => rfl
theorem bd_check_taken : ∀ (kV dc pm : Value) (an : Option Addr) (cd ct : Value) (us : List Value), us.length = 3 → bindArgs (PySem.W.fnOf "check_taken" "check_taken" (defArgs (topS 47)) (defBody (topS 47)) (defScope (topS 47)) .none kV dc pm an cd ct) ⟨us, []⟩ = pure ((["setting", "action", "belief"] : List Str).zip us) := fun _ _ _ _ _ _ us hl => match us, hl with | [_, _, _], _ => rfl
theorem bd_pay : ∀ (kV dc pm : Value) (an : Option Addr) (cd ct : Value) (us : List Value), us.length = 3 → bindArgs (PySem.W.fnOf "pay" "pay" (defArgs (topS 48)) (defBody (topS 48)) (defScope (topS 48)) .none kV dc pm an cd ct) ⟨us, []⟩ = pure ((["setting", "action", "belief"] : List Str).zip us) := fun _ _ _ _ _ _ us hl => match us, hl with | [_, _, _], _ => rfl
theorem kd_pay : ∀ q ∈ ([(0, ["action", "belief", "setting"], [2, 0, 1])] : List (Nat × List Str × List Nat)), ∀ (kV dc pm : Value) (an : Option Addr) (cd ct : Value) (us ws : List Value), us.length = q.1 → ws.length = q.2.1.length → bindArgs (PySem.W.fnOf "pay" "pay" (defArgs (topS 48)) (defBody (topS 48)) (defScope (topS 48)) .none kV dc pm an cd ct) ⟨us, q.2.1.zip ws⟩ = pure ((["setting", "action", "belief"] : List Str).zip (pick q.2.2 us ws)) := fun q hq => by
  simp only [List.mem_cons, List.not_mem_nil, or_false] at hq
  subst hq
  · exact fun _ _ _ _ _ _ us ws h1 h2 => match us, ws, h1, h2 with | [], [_, _, _], _, _ => rfl
theorem bd_worth : ∀ (kV dc pm : Value) (an : Option Addr) (cd ct : Value) (us : List Value), us.length = 3 → bindArgs (PySem.W.fnOf "worth" "worth" (defArgs (topS 49)) (defBody (topS 49)) (defScope (topS 49)) .none kV dc pm an cd ct) ⟨us, []⟩ = pure ((["setting", "action", "belief"] : List Str).zip us) := fun _ _ _ _ _ _ us hl => match us, hl with | [_, _, _], _ => rfl
theorem kd_worth : ∀ q ∈ ([(0, ["belief", "setting", "action"], [1, 2, 0])] : List (Nat × List Str × List Nat)), ∀ (kV dc pm : Value) (an : Option Addr) (cd ct : Value) (us ws : List Value), us.length = q.1 → ws.length = q.2.1.length → bindArgs (PySem.W.fnOf "worth" "worth" (defArgs (topS 49)) (defBody (topS 49)) (defScope (topS 49)) .none kV dc pm an cd ct) ⟨us, q.2.1.zip ws⟩ = pure ((["setting", "action", "belief"] : List Str).zip (pick q.2.2 us ws)) := fun q hq => by
  simp only [List.mem_cons, List.not_mem_nil, or_false] at hq
  subst hq
  · exact fun _ _ _ _ _ _ us ws h1 h2 => match us, ws, h1, h2 with | [], [_, _, _], _, _ => rfl
theorem bd_best_actions : ∀ (kV dc pm : Value) (an : Option Addr) (cd ct : Value) (us : List Value), us.length = 2 → bindArgs (PySem.W.fnOf "best_actions" "best_actions" (defArgs (topS 50)) (defBody (topS 50)) (defScope (topS 50)) .none kV dc pm an cd ct) ⟨us, []⟩ = pure ((["setting", "belief"] : List Str).zip us) := fun _ _ _ _ _ _ us hl => match us, hl with | [_, _], _ => rfl
theorem kd_best_actions : ∀ q ∈ ([(0, ["belief", "setting"], [1, 0])] : List (Nat × List Str × List Nat)), ∀ (kV dc pm : Value) (an : Option Addr) (cd ct : Value) (us ws : List Value), us.length = q.1 → ws.length = q.2.1.length → bindArgs (PySem.W.fnOf "best_actions" "best_actions" (defArgs (topS 50)) (defBody (topS 50)) (defScope (topS 50)) .none kV dc pm an cd ct) ⟨us, q.2.1.zip ws⟩ = pure ((["setting", "belief"] : List Str).zip (pick q.2.2 us ws)) := fun q hq => by
  simp only [List.mem_cons, List.not_mem_nil, or_false] at hq
  subst hq
  · exact fun _ _ _ _ _ _ us ws h1 h2 => match us, ws, h1, h2 with | [], [_, _], _, _ => rfl
theorem bd_choice : ∀ (kV dc pm : Value) (an : Option Addr) (cd ct : Value) (us : List Value), us.length = 2 → bindArgs (PySem.W.fnOf "choice" "choice" (defArgs (topS 51)) (defBody (topS 51)) (defScope (topS 51)) .none kV dc pm an cd ct) ⟨us, []⟩ = pure ((["setting", "belief"] : List Str).zip us) := fun _ _ _ _ _ _ us hl => match us, hl with | [_, _], _ => rfl
theorem kd_choice : ∀ q ∈ ([(0, ["setting", "belief"], [0, 1])] : List (Nat × List Str × List Nat)), ∀ (kV dc pm : Value) (an : Option Addr) (cd ct : Value) (us ws : List Value), us.length = q.1 → ws.length = q.2.1.length → bindArgs (PySem.W.fnOf "choice" "choice" (defArgs (topS 51)) (defBody (topS 51)) (defScope (topS 51)) .none kV dc pm an cd ct) ⟨us, q.2.1.zip ws⟩ = pure ((["setting", "belief"] : List Str).zip (pick q.2.2 us ws)) := fun q hq => by
  simp only [List.mem_cons, List.not_mem_nil, or_false] at hq
  subst hq
  · exact fun _ _ _ _ _ _ us ws h1 h2 => match us, ws, h1, h2 with | [], [_, _], _, _ => rfl
theorem bd_value : ∀ (kV dc pm : Value) (an : Option Addr) (cd ct : Value) (us : List Value), us.length = 2 → bindArgs (PySem.W.fnOf "value" "value" (defArgs (topS 52)) (defBody (topS 52)) (defScope (topS 52)) .none kV dc pm an cd ct) ⟨us, []⟩ = pure ((["setting", "belief"] : List Str).zip us) := fun _ _ _ _ _ _ us hl => match us, hl with | [_, _], _ => rfl
theorem bd__law_well : ∀ (kV dc pm : Value) (an : Option Addr) (cd ct : Value) (us : List Value), us.length = 2 → bindArgs (PySem.W.fnOf "_law_well" "_law_well" (defArgs (topS 54)) (defBody (topS 54)) (defScope (topS 54)) .none kV dc pm an cd ct) ⟨us, []⟩ = pure ((["_law_script", "_law_lap"] : List Str).zip us) := fun _ _ _ _ _ _ us hl => match us, hl with | [_, _], _ => rfl
theorem bd__law_draw : ∀ (kV dc pm : Value) (an : Option Addr) (cd ct : Value) (us : List Value), us.length = 2 → bindArgs (PySem.W.fnOf "_law_draw" "_law_draw" (defArgs (topS 55)) (defBody (topS 55)) (defScope (topS 55)) .none kV dc pm an cd ct) ⟨us, []⟩ = pure ((["_law_well_here", "_law_few"] : List Str).zip us) := fun _ _ _ _ _ _ us hl => match us, hl with | [_, _], _ => rfl
theorem bd__law_one : ∀ (kV dc pm : Value) (an : Option Addr) (cd ct : Value) (us : List Value), us.length = 2 → bindArgs (PySem.W.fnOf "_law_one" "_law_one" (defArgs (topS 56)) (defBody (topS 56)) (defScope (topS 56)) .none kV dc pm an cd ct) ⟨us, []⟩ = pure ((["_law_well_here", "_law_some"] : List Str).zip us) := fun _ _ _ _ _ _ us hl => match us, hl with | [_, _], _ => rfl
theorem bd__law_lean : ∀ (kV dc pm : Value) (an : Option Addr) (cd ct : Value) (us : List Value), us.length = 2 → bindArgs (PySem.W.fnOf "_law_lean" "_law_lean" (defArgs (topS 57)) (defBody (topS 57)) (defScope (topS 57)) .none kV dc pm an cd ct) ⟨us, []⟩ = pure ((["_law_top", "_law_base"] : List Str).zip us) := fun _ _ _ _ _ _ us hl => match us, hl with | [_, _], _ => rfl
theorem bd__law_plus : ∀ (kV dc pm : Value) (an : Option Addr) (cd ct : Value) (us : List Value), us.length = 2 → bindArgs (PySem.W.fnOf "_law_plus" "_law_plus" (defArgs (topS 58)) (defBody (topS 58)) (defScope (topS 58)) .none kV dc pm an cd ct) ⟨us, []⟩ = pure ((["_law_x", "_law_y"] : List Str).zip us) := fun _ _ _ _ _ _ us hl => match us, hl with | [_, _], _ => rfl
theorem bd__law_times : ∀ (kV dc pm : Value) (an : Option Addr) (cd ct : Value) (us : List Value), us.length = 2 → bindArgs (PySem.W.fnOf "_law_times" "_law_times" (defArgs (topS 59)) (defBody (topS 59)) (defScope (topS 59)) .none kV dc pm an cd ct) ⟨us, []⟩ = pure ((["_law_x", "_law_y"] : List Str).zip us) := fun _ _ _ _ _ _ us hl => match us, hl with | [_, _], _ => rfl
theorem bd__law_below : ∀ (kV dc pm : Value) (an : Option Addr) (cd ct : Value) (us : List Value), us.length = 2 → bindArgs (PySem.W.fnOf "_law_below" "_law_below" (defArgs (topS 60)) (defBody (topS 60)) (defScope (topS 60)) .none kV dc pm an cd ct) ⟨us, []⟩ = pure ((["_law_x", "_law_y"] : List Str).zip us) := fun _ _ _ _ _ _ us hl => match us, hl with | [_, _], _ => rfl
theorem bd__law_dot : ∀ (kV dc pm : Value) (an : Option Addr) (cd ct : Value) (us : List Value), us.length = 2 → bindArgs (PySem.W.fnOf "_law_dot" "_law_dot" (defArgs (topS 61)) (defBody (topS 61)) (defScope (topS 61)) .none kV dc pm an cd ct) ⟨us, []⟩ = pure ((["_law_one_here", "_law_two"] : List Str).zip us) := fun _ _ _ _ _ _ us hl => match us, hl with | [_, _], _ => rfl
theorem bd__law_minus : ∀ (kV dc pm : Value) (an : Option Addr) (cd ct : Value) (us : List Value), us.length = 2 → bindArgs (PySem.W.fnOf "_law_minus" "_law_minus" (defArgs (topS 62)) (defBody (topS 62)) (defScope (topS 62)) .none kV dc pm an cd ct) ⟨us, []⟩ = pure ((["_law_x", "_law_y"] : List Str).zip us) := fun _ _ _ _ _ _ us hl => match us, hl with | [_, _], _ => rfl
theorem bd__law_over : ∀ (kV dc pm : Value) (an : Option Addr) (cd ct : Value) (us : List Value), us.length = 2 → bindArgs (PySem.W.fnOf "_law_over" "_law_over" (defArgs (topS 63)) (defBody (topS 63)) (defScope (topS 63)) .none kV dc pm an cd ct) ⟨us, []⟩ = pure ((["_law_x", "_law_y"] : List Str).zip us) := fun _ _ _ _ _ _ us hl => match us, hl with | [_, _], _ => rfl
theorem bd__law_chance : ∀ (kV dc pm : Value) (an : Option Addr) (cd ct : Value) (us : List Value), us.length = 2 → bindArgs (PySem.W.fnOf "_law_chance" "_law_chance" (defArgs (topS 64)) (defBody (topS 64)) (defScope (topS 64)) .none kV dc pm an cd ct) ⟨us, []⟩ = pure ((["_law_well_here", "_law_n"] : List Str).zip us) := fun _ _ _ _ _ _ us hl => match us, hl with | [_, _], _ => rfl
theorem bd__law_number : ∀ (kV dc pm : Value) (an : Option Addr) (cd ct : Value) (us : List Value), us.length = 1 → bindArgs (PySem.W.fnOf "_law_number" "_law_number" (defArgs (topS 65)) (defBody (topS 65)) (defScope (topS 65)) .none kV dc pm an cd ct) ⟨us, []⟩ = pure ((["_law_well_here"] : List Str).zip us) := fun _ _ _ _ _ _ us hl => match us, hl with | [_], _ => rfl
theorem bd__law_row : ∀ (kV dc pm : Value) (an : Option Addr) (cd ct : Value) (us : List Value), us.length = 2 → bindArgs (PySem.W.fnOf "_law_row" "_law_row" (defArgs (topS 66)) (defBody (topS 66)) (defScope (topS 66)) .none kV dc pm an cd ct) ⟨us, []⟩ = pure ((["_law_well_here", "_law_n"] : List Str).zip us) := fun _ _ _ _ _ _ us hl => match us, hl with | [_, _], _ => rfl
theorem bd__law_sizes : ∀ (kV dc pm : Value) (an : Option Addr) (cd ct : Value) (us : List Value), us.length = 1 → bindArgs (PySem.W.fnOf "_law_sizes" "_law_sizes" (defArgs (topS 67)) (defBody (topS 67)) (defScope (topS 67)) .none kV dc pm an cd ct) ⟨us, []⟩ = pure ((["_law_well_here"] : List Str).zip us) := fun _ _ _ _ _ _ us hl => match us, hl with | [_], _ => rfl
theorem bd__law_pays : ∀ (kV dc pm : Value) (an : Option Addr) (cd ct : Value) (us : List Value), us.length = 3 → bindArgs (PySem.W.fnOf "_law_pays" "_law_pays" (defArgs (topS 68)) (defBody (topS 68)) (defScope (topS 68)) .none kV dc pm an cd ct) ⟨us, []⟩ = pure ((["_law_well_here", "_law_n", "_law_m"] : List Str).zip us) := fun _ _ _ _ _ _ us hl => match us, hl with | [_, _, _], _ => rfl
theorem bd__law_best : ∀ (kV dc pm : Value) (an : Option Addr) (cd ct : Value) (us : List Value), us.length = 2 → bindArgs (PySem.W.fnOf "_law_best" "_law_best" (defArgs (topS 69)) (defBody (topS 69)) (defScope (topS 69)) .none kV dc pm an cd ct) ⟨us, []⟩ = pure ((["_law_pays_here", "_law_chance_here"] : List Str).zip us) := fun _ _ _ _ _ _ us hl => match us, hl with | [_, _], _ => rfl
theorem bd__law_choice : ∀ (kV dc pm : Value) (an : Option Addr) (cd ct : Value) (us : List Value), us.length = 2 → bindArgs (PySem.W.fnOf "_law_choice" "_law_choice" (defArgs (topS 70)) (defBody (topS 70)) (defScope (topS 70)) .none kV dc pm an cd ct) ⟨us, []⟩ = pure ((["_law_world_here", "_law_chance_here"] : List Str).zip us) := fun _ _ _ _ _ _ us hl => match us, hl with | [_, _], _ => rfl
theorem bd__law_tied : ∀ (kV dc pm : Value) (an : Option Addr) (cd ct : Value) (us : List Value), us.length = 3 → bindArgs (PySem.W.fnOf "_law_tied" "_law_tied" (defArgs (topS 71)) (defBody (topS 71)) (defScope (topS 71)) .none kV dc pm an cd ct) ⟨us, []⟩ = pure ((["_law_well_here", "_law_pays_here", "_law_chance_here"] : List Str).zip us) := fun _ _ _ _ _ _ us hl => match us, hl with | [_, _, _], _ => rfl
theorem bd__law_world : ∀ (kV dc pm : Value) (an : Option Addr) (cd ct : Value) (us : List Value), us.length = 1 → bindArgs (PySem.W.fnOf "_law_world" "_law_world" (defArgs (topS 72)) (defBody (topS 72)) (defScope (topS 72)) .none kV dc pm an cd ct) ⟨us, []⟩ = pure ((["_law_well_here"] : List Str).zip us) := fun _ _ _ _ _ _ us hl => match us, hl with | [_], _ => rfl
theorem bd__law_moved : ∀ (kV dc pm : Value) (an : Option Addr) (cd ct : Value) (us : List Value), us.length = 2 → bindArgs (PySem.W.fnOf "_law_moved" "_law_moved" (defArgs (topS 73)) (defBody (topS 73)) (defScope (topS 73)) .none kV dc pm an cd ct) ⟨us, []⟩ = pure ((["_law_well_here", "_law_world_here"] : List Str).zip us) := fun _ _ _ _ _ _ us hl => match us, hl with | [_, _], _ => rfl
theorem bd__law_there : ∀ (kV dc pm : Value) (an : Option Addr) (cd ct : Value) (us : List Value), us.length = 2 → bindArgs (PySem.W.fnOf "_law_there" "_law_there" (defArgs (topS 74)) (defBody (topS 74)) (defScope (topS 74)) .none kV dc pm an cd ct) ⟨us, []⟩ = pure ((["_law_world_here", "_law_chance_here"] : List Str).zip us) := fun _ _ _ _ _ _ us hl => match us, hl with | [_, _], _ => rfl
theorem bd__law_right : ∀ (kV dc pm : Value) (an : Option Addr) (cd ct : Value) (us : List Value), us.length = 1 → bindArgs (PySem.W.fnOf "_law_right" "_law_right" (defArgs (topS 75)) (defBody (topS 75)) (defScope (topS 75)) .none kV dc pm an cd ct) ⟨us, []⟩ = pure ((["_law_well_here"] : List Str).zip us) := fun _ _ _ _ _ _ us hl => match us, hl with | [_], _ => rfl
theorem bd_law : ∀ (kV dc pm : Value) (an : Option Addr) (cd ct : Value) (us : List Value), us.length = 1 → bindArgs (PySem.W.fnOf "law" "law" (defArgs (topS 76)) (defBody (topS 76)) (defScope (topS 76)) .none kV dc pm an cd ct) ⟨us, []⟩ = pure ((["_law_script"] : List Str).zip us) := fun _ _ _ _ _ _ us hl => match us, hl with | [_], _ => rfl
end Row
open PySem PySem.W PyProof.Rows Ev Row
set_option maxHeartbeats 0 in
theorem PySem.Challenge.cw_swayhouse_k03_whole_pays_best_actions_va_holds : PySem.Challenge.rw_swayhouse_k03_whole_pays_best_actions_va.Holds := by
  w_on; o_law; k_head; (case hw => w_witness2)
  k_fill
  refine ev_walk (l := PySem.Challenge.rw_swayhouse_k03_whole_pays_best_actions_va) (n := 63) (N := 1000000) (k := 60) (lv := 60 + 100) (f := "law") (x := "_law_script") (T := tb) rfl (by decide) rfl ⟨rfl, by decide, by decide⟩ (by decide +kernel) (fun w h Y => PySem.W.kIn_of Y) ?F (fun ns h1 h2 => val_law ns h1 h2)
  case F =>
    intro w mg fa h KX G hmg
    have d_is_whole := fnD_mk (P := PySem.Challenge.rw_swayhouse_k03_whole_pays_best_actions_va.prog) (w := w) (mg := mg) (T := tb) (B := inf) (kbs := []) KX G ck_is_whole bd_is_whole (fun q hq => by cases hq) (by k_is) (by k_is) (by k_is) (by k_is)
    have d_is_between := fnD_mk (P := PySem.Challenge.rw_swayhouse_k03_whole_pays_best_actions_va.prog) (w := w) (mg := mg) (T := tb) (B := inf) (kbs := []) KX G ck_is_between bd_is_between (fun q hq => by cases hq) (by k_is) (by k_is) (by k_is) (by k_is)
    have d_is_tuple_of := fnD_mk (P := PySem.Challenge.rw_swayhouse_k03_whole_pays_best_actions_va.prog) (w := w) (mg := mg) (T := tb) (B := inf) (kbs := []) KX G ck_is_tuple_of bd_is_tuple_of (fun q hq => by cases hq) (by k_is) (by k_is) (by k_is) (by k_is)
    have d_is_ratio := fnD_mk (P := PySem.Challenge.rw_swayhouse_k03_whole_pays_best_actions_va.prog) (w := w) (mg := mg) (T := tb) (B := inf) (kbs := []) KX G ck_is_ratio bd_is_ratio (fun q hq => by cases hq) (by k_is) (by k_is) (by k_is) (by k_is)
    have d_ratio := fnD_mk (P := PySem.Challenge.rw_swayhouse_k03_whole_pays_best_actions_va.prog) (w := w) (mg := mg) (T := tb) (B := inf) (kbs := []) KX G ck_ratio bd_ratio (fun q hq => by cases hq) (by k_is) (by k_is) (by k_is) (by k_is)
    have d_plus := fnD_mk (P := PySem.Challenge.rw_swayhouse_k03_whole_pays_best_actions_va.prog) (w := w) (mg := mg) (T := tb) (B := inf) (kbs := []) KX G ck_plus bd_plus (fun q hq => by cases hq) (by k_is) (by k_is) (by k_is) (by k_is)
    have d_times := fnD_mk (P := PySem.Challenge.rw_swayhouse_k03_whole_pays_best_actions_va.prog) (w := w) (mg := mg) (T := tb) (B := inf) (kbs := []) KX G ck_times bd_times (fun q hq => by cases hq) (by k_is) (by k_is) (by k_is) (by k_is)
    have d_is_less := fnD_mk (P := PySem.Challenge.rw_swayhouse_k03_whole_pays_best_actions_va.prog) (w := w) (mg := mg) (T := tb) (B := inf) (kbs := []) KX G ck_is_less bd_is_less (fun q hq => by cases hq) (by k_is) (by k_is) (by k_is) (by k_is)
    have d_total := fnD_mk (P := PySem.Challenge.rw_swayhouse_k03_whole_pays_best_actions_va.prog) (w := w) (mg := mg) (T := tb) (B := inf) (kbs := []) KX G ck_total bd_total (fun q hq => by cases hq) (by k_is) (by k_is) (by k_is) (by k_is)
    have d_dot := fnD_mk (P := PySem.Challenge.rw_swayhouse_k03_whole_pays_best_actions_va.prog) (w := w) (mg := mg) (T := tb) (B := inf) (kbs := []) KX G ck_dot bd_dot (fun q hq => by cases hq) (by k_is) (by k_is) (by k_is) (by k_is)
    have d_greatest_of := fnD_mk (P := PySem.Challenge.rw_swayhouse_k03_whole_pays_best_actions_va.prog) (w := w) (mg := mg) (T := tb) (B := inf) (kbs := []) KX G ck_greatest_of bd_greatest_of (fun q hq => by cases hq) (by k_is) (by k_is) (by k_is) (by k_is)
    have d_is_row := fnD_mk (P := PySem.Challenge.rw_swayhouse_k03_whole_pays_best_actions_va.prog) (w := w) (mg := mg) (T := tb) (B := inf) (kbs := []) KX G ck_is_row bd_is_row (fun q hq => by cases hq) (by k_is) (by k_is) (by k_is) (by k_is)
    have d_are_rows := fnD_mk (P := PySem.Challenge.rw_swayhouse_k03_whole_pays_best_actions_va.prog) (w := w) (mg := mg) (T := tb) (B := inf) (kbs := []) KX G ck_are_rows bd_are_rows (fun q hq => by cases hq) (by k_is) (by k_is) (by k_is) (by k_is)
    have d_is_setting_by := fnD_mk (P := PySem.Challenge.rw_swayhouse_k03_whole_pays_best_actions_va.prog) (w := w) (mg := mg) (T := tb) (B := inf) (kbs := []) KX G ck_is_setting_by bd_is_setting_by (fun q hq => by cases hq) (by k_is) (by k_is) (by k_is) (by k_is)
    have d_many_states := fnD_mk (P := PySem.Challenge.rw_swayhouse_k03_whole_pays_best_actions_va.prog) (w := w) (mg := mg) (T := tb) (B := inf) (kbs := []) KX G ck_many_states bd_many_states (fun q hq => by cases hq) (by k_is) (by k_is) (by k_is) (by k_is)
    have d_many_actions := fnD_mk (P := PySem.Challenge.rw_swayhouse_k03_whole_pays_best_actions_va.prog) (w := w) (mg := mg) (T := tb) (B := inf) (kbs := []) KX G ck_many_actions bd_many_actions (fun q hq => by cases hq) (by k_is) (by k_is) (by k_is) (by k_is)
    have d_is_mix_of := fnD_mk (P := PySem.Challenge.rw_swayhouse_k03_whole_pays_best_actions_va.prog) (w := w) (mg := mg) (T := tb) (B := inf) (kbs := []) KX G ck_is_mix_of bd_is_mix_of (fun q hq => by cases hq) (by k_is) (by k_is) (by k_is) (by k_is)
    have d_is_belief_by := fnD_mk (P := PySem.Challenge.rw_swayhouse_k03_whole_pays_best_actions_va.prog) (w := w) (mg := mg) (T := tb) (B := inf) (kbs := []) KX G ck_is_belief_by bd_is_belief_by (fun q hq => by cases hq) (by k_is) (by k_is) (by k_is) (by k_is)
    have d_is_action_by := fnD_mk (P := PySem.Challenge.rw_swayhouse_k03_whole_pays_best_actions_va.prog) (w := w) (mg := mg) (T := tb) (B := inf) (kbs := []) KX G ck_is_action_by bd_is_action_by (fun q hq => by cases hq) (by k_is) (by k_is) (by k_is) (by k_is)
    have d_is_state_by := fnD_mk (P := PySem.Challenge.rw_swayhouse_k03_whole_pays_best_actions_va.prog) (w := w) (mg := mg) (T := tb) (B := inf) (kbs := []) KX G ck_is_state_by bd_is_state_by (fun q hq => by cases hq) (by k_is) (by k_is) (by k_is) (by k_is)
    have d_sure_by := fnD_mk (P := PySem.Challenge.rw_swayhouse_k03_whole_pays_best_actions_va.prog) (w := w) (mg := mg) (T := tb) (B := inf) (kbs := []) KX G ck_sure_by bd_sure_by (fun q hq => by cases hq) (by k_is) (by k_is) (by k_is) (by k_is)
    have d_best_by := fnD_mk (P := PySem.Challenge.rw_swayhouse_k03_whole_pays_best_actions_va.prog) (w := w) (mg := mg) (T := tb) (B := inf) (kbs := []) KX G ck_best_by bd_best_by (fun q hq => by cases hq) (by k_is) (by k_is) (by k_is) (by k_is)
    have d_worth_by := fnD_mk (P := PySem.Challenge.rw_swayhouse_k03_whole_pays_best_actions_va.prog) (w := w) (mg := mg) (T := tb) (B := inf) (kbs := []) KX G ck_worth_by bd_worth_by (fun q hq => by cases hq) (by k_is) (by k_is) (by k_is) (by k_is)
    have d_value_by := fnD_mk (P := PySem.Challenge.rw_swayhouse_k03_whole_pays_best_actions_va.prog) (w := w) (mg := mg) (T := tb) (B := inf) (kbs := []) KX G ck_value_by bd_value_by (fun q hq => by cases hq) (by k_is) (by k_is) (by k_is) (by k_is)
    have d_choice_by := fnD_mk (P := PySem.Challenge.rw_swayhouse_k03_whole_pays_best_actions_va.prog) (w := w) (mg := mg) (T := tb) (B := inf) (kbs := []) KX G ck_choice_by bd_choice_by (fun q hq => by cases hq) (by k_is) (by k_is) (by k_is) (by k_is)
    have d_check_setting := fnD_mk (P := PySem.Challenge.rw_swayhouse_k03_whole_pays_best_actions_va.prog) (w := w) (mg := mg) (T := tb) (B := inf) (kbs := []) KX G ck_check_setting bd_check_setting (fun q hq => by cases hq) (by k_is) (by k_is) (by k_is) (by k_is)
    have d_check_belief := fnD_mk (P := PySem.Challenge.rw_swayhouse_k03_whole_pays_best_actions_va.prog) (w := w) (mg := mg) (T := tb) (B := inf) (kbs := []) KX G ck_check_belief bd_check_belief (fun q hq => by cases hq) (by k_is) (by k_is) (by k_is) (by k_is)
    have d_check_believed := fnD_mk (P := PySem.Challenge.rw_swayhouse_k03_whole_pays_best_actions_va.prog) (w := w) (mg := mg) (T := tb) (B := inf) (kbs := []) KX G ck_check_believed bd_check_believed (fun q hq => by cases hq) (by k_is) (by k_is) (by k_is) (by k_is)
    have d_check_action := fnD_mk (P := PySem.Challenge.rw_swayhouse_k03_whole_pays_best_actions_va.prog) (w := w) (mg := mg) (T := tb) (B := inf) (kbs := []) KX G ck_check_action bd_check_action (fun q hq => by cases hq) (by k_is) (by k_is) (by k_is) (by k_is)
    have d_check_state := fnD_mk (P := PySem.Challenge.rw_swayhouse_k03_whole_pays_best_actions_va.prog) (w := w) (mg := mg) (T := tb) (B := inf) (kbs := []) KX G ck_check_state bd_check_state (fun q hq => by cases hq) (by k_is) (by k_is) (by k_is) (by k_is)
    have d_sure := fnD_mk (P := PySem.Challenge.rw_swayhouse_k03_whole_pays_best_actions_va.prog) (w := w) (mg := mg) (T := tb) (B := inf) (kbs := [(0, ["state", "setting"], [1, 0])]) KX G ck_sure bd_sure kd_sure (by k_is) (by k_is) (by k_is) (by k_is)
    have d_check_taken := fnD_mk (P := PySem.Challenge.rw_swayhouse_k03_whole_pays_best_actions_va.prog) (w := w) (mg := mg) (T := tb) (B := inf) (kbs := []) KX G ck_check_taken bd_check_taken (fun q hq => by cases hq) (by k_is) (by k_is) (by k_is) (by k_is)
    have d_pay := fnD_mk (P := PySem.Challenge.rw_swayhouse_k03_whole_pays_best_actions_va.prog) (w := w) (mg := mg) (T := tb) (B := inf) (kbs := [(0, ["action", "belief", "setting"], [2, 0, 1])]) KX G ck_pay bd_pay kd_pay (by k_is) (by k_is) (by k_is) (by k_is)
    have d_worth := fnD_mk (P := PySem.Challenge.rw_swayhouse_k03_whole_pays_best_actions_va.prog) (w := w) (mg := mg) (T := tb) (B := inf) (kbs := [(0, ["belief", "setting", "action"], [1, 2, 0])]) KX G ck_worth bd_worth kd_worth (by k_is) (by k_is) (by k_is) (by k_is)
    have d_best_actions := fnD_mk (P := PySem.Challenge.rw_swayhouse_k03_whole_pays_best_actions_va.prog) (w := w) (mg := mg) (T := tb) (B := inf) (kbs := [(0, ["belief", "setting"], [1, 0])]) KX G ck_best_actions bd_best_actions kd_best_actions (by k_is) (by k_is) (by k_is) (by k_is)
    have d_choice := fnD_mk (P := PySem.Challenge.rw_swayhouse_k03_whole_pays_best_actions_va.prog) (w := w) (mg := mg) (T := tb) (B := inf) (kbs := [(0, ["setting", "belief"], [0, 1])]) KX G ck_choice bd_choice kd_choice (by k_is) (by k_is) (by k_is) (by k_is)
    have d_value := fnD_mk (P := PySem.Challenge.rw_swayhouse_k03_whole_pays_best_actions_va.prog) (w := w) (mg := mg) (T := tb) (B := inf) (kbs := []) KX G ck_value bd_value (fun q hq => by cases hq) (by k_is) (by k_is) (by k_is) (by k_is)
    have d__law_well := fnD_mk (P := PySem.Challenge.rw_swayhouse_k03_whole_pays_best_actions_va.prog) (w := w) (mg := mg) (T := tb) (B := inf) (kbs := []) KX G ck__law_well bd__law_well (fun q hq => by cases hq) (by k_is) (by k_is) (by k_is) (by k_is)
    have d__law_draw := fnD_mk (P := PySem.Challenge.rw_swayhouse_k03_whole_pays_best_actions_va.prog) (w := w) (mg := mg) (T := tb) (B := inf) (kbs := []) KX G ck__law_draw bd__law_draw (fun q hq => by cases hq) (by k_is) (by k_is) (by k_is) (by k_is)
    have d__law_one := fnD_mk (P := PySem.Challenge.rw_swayhouse_k03_whole_pays_best_actions_va.prog) (w := w) (mg := mg) (T := tb) (B := inf) (kbs := []) KX G ck__law_one bd__law_one (fun q hq => by cases hq) (by k_is) (by k_is) (by k_is) (by k_is)
    have d__law_lean := fnD_mk (P := PySem.Challenge.rw_swayhouse_k03_whole_pays_best_actions_va.prog) (w := w) (mg := mg) (T := tb) (B := inf) (kbs := []) KX G ck__law_lean bd__law_lean (fun q hq => by cases hq) (by k_is) (by k_is) (by k_is) (by k_is)
    have d__law_plus := fnD_mk (P := PySem.Challenge.rw_swayhouse_k03_whole_pays_best_actions_va.prog) (w := w) (mg := mg) (T := tb) (B := inf) (kbs := []) KX G ck__law_plus bd__law_plus (fun q hq => by cases hq) (by k_is) (by k_is) (by k_is) (by k_is)
    have d__law_times := fnD_mk (P := PySem.Challenge.rw_swayhouse_k03_whole_pays_best_actions_va.prog) (w := w) (mg := mg) (T := tb) (B := inf) (kbs := []) KX G ck__law_times bd__law_times (fun q hq => by cases hq) (by k_is) (by k_is) (by k_is) (by k_is)
    have d__law_below := fnD_mk (P := PySem.Challenge.rw_swayhouse_k03_whole_pays_best_actions_va.prog) (w := w) (mg := mg) (T := tb) (B := inf) (kbs := []) KX G ck__law_below bd__law_below (fun q hq => by cases hq) (by k_is) (by k_is) (by k_is) (by k_is)
    have d__law_dot := fnD_mk (P := PySem.Challenge.rw_swayhouse_k03_whole_pays_best_actions_va.prog) (w := w) (mg := mg) (T := tb) (B := inf) (kbs := []) KX G ck__law_dot bd__law_dot (fun q hq => by cases hq) (by k_is) (by k_is) (by k_is) (by k_is)
    have d__law_minus := fnD_mk (P := PySem.Challenge.rw_swayhouse_k03_whole_pays_best_actions_va.prog) (w := w) (mg := mg) (T := tb) (B := inf) (kbs := []) KX G ck__law_minus bd__law_minus (fun q hq => by cases hq) (by k_is) (by k_is) (by k_is) (by k_is)
    have d__law_over := fnD_mk (P := PySem.Challenge.rw_swayhouse_k03_whole_pays_best_actions_va.prog) (w := w) (mg := mg) (T := tb) (B := inf) (kbs := []) KX G ck__law_over bd__law_over (fun q hq => by cases hq) (by k_is) (by k_is) (by k_is) (by k_is)
    have d__law_chance := fnD_mk (P := PySem.Challenge.rw_swayhouse_k03_whole_pays_best_actions_va.prog) (w := w) (mg := mg) (T := tb) (B := inf) (kbs := []) KX G ck__law_chance bd__law_chance (fun q hq => by cases hq) (by k_is) (by k_is) (by k_is) (by k_is)
    have d__law_number := fnD_mk (P := PySem.Challenge.rw_swayhouse_k03_whole_pays_best_actions_va.prog) (w := w) (mg := mg) (T := tb) (B := inf) (kbs := []) KX G ck__law_number bd__law_number (fun q hq => by cases hq) (by k_is) (by k_is) (by k_is) (by k_is)
    have d__law_row := fnD_mk (P := PySem.Challenge.rw_swayhouse_k03_whole_pays_best_actions_va.prog) (w := w) (mg := mg) (T := tb) (B := inf) (kbs := []) KX G ck__law_row bd__law_row (fun q hq => by cases hq) (by k_is) (by k_is) (by k_is) (by k_is)
    have d__law_sizes := fnD_mk (P := PySem.Challenge.rw_swayhouse_k03_whole_pays_best_actions_va.prog) (w := w) (mg := mg) (T := tb) (B := inf) (kbs := []) KX G ck__law_sizes bd__law_sizes (fun q hq => by cases hq) (by k_is) (by k_is) (by k_is) (by k_is)
    have d__law_pays := fnD_mk (P := PySem.Challenge.rw_swayhouse_k03_whole_pays_best_actions_va.prog) (w := w) (mg := mg) (T := tb) (B := inf) (kbs := []) KX G ck__law_pays bd__law_pays (fun q hq => by cases hq) (by k_is) (by k_is) (by k_is) (by k_is)
    have d__law_best := fnD_mk (P := PySem.Challenge.rw_swayhouse_k03_whole_pays_best_actions_va.prog) (w := w) (mg := mg) (T := tb) (B := inf) (kbs := []) KX G ck__law_best bd__law_best (fun q hq => by cases hq) (by k_is) (by k_is) (by k_is) (by k_is)
    have d__law_choice := fnD_mk (P := PySem.Challenge.rw_swayhouse_k03_whole_pays_best_actions_va.prog) (w := w) (mg := mg) (T := tb) (B := inf) (kbs := []) KX G ck__law_choice bd__law_choice (fun q hq => by cases hq) (by k_is) (by k_is) (by k_is) (by k_is)
    have d__law_tied := fnD_mk (P := PySem.Challenge.rw_swayhouse_k03_whole_pays_best_actions_va.prog) (w := w) (mg := mg) (T := tb) (B := inf) (kbs := []) KX G ck__law_tied bd__law_tied (fun q hq => by cases hq) (by k_is) (by k_is) (by k_is) (by k_is)
    have d__law_world := fnD_mk (P := PySem.Challenge.rw_swayhouse_k03_whole_pays_best_actions_va.prog) (w := w) (mg := mg) (T := tb) (B := inf) (kbs := []) KX G ck__law_world bd__law_world (fun q hq => by cases hq) (by k_is) (by k_is) (by k_is) (by k_is)
    have d__law_moved := fnD_mk (P := PySem.Challenge.rw_swayhouse_k03_whole_pays_best_actions_va.prog) (w := w) (mg := mg) (T := tb) (B := inf) (kbs := []) KX G ck__law_moved bd__law_moved (fun q hq => by cases hq) (by k_is) (by k_is) (by k_is) (by k_is)
    have d__law_there := fnD_mk (P := PySem.Challenge.rw_swayhouse_k03_whole_pays_best_actions_va.prog) (w := w) (mg := mg) (T := tb) (B := inf) (kbs := []) KX G ck__law_there bd__law_there (fun q hq => by cases hq) (by k_is) (by k_is) (by k_is) (by k_is)
    have d__law_right := fnD_mk (P := PySem.Challenge.rw_swayhouse_k03_whole_pays_best_actions_va.prog) (w := w) (mg := mg) (T := tb) (B := inf) (kbs := []) KX G ck__law_right bd__law_right (fun q hq => by cases hq) (by k_is) (by k_is) (by k_is) (by k_is)
    have d_law := fnD_mk (P := PySem.Challenge.rw_swayhouse_k03_whole_pays_best_actions_va.prog) (w := w) (mg := mg) (T := tb) (B := inf) (kbs := []) KX G ck_law bd_law (fun q hq => by cases hq) (by k_is) (by k_is) (by k_is) (by k_is)
    have hf := (fns_cons d_is_whole (fns_cons d_is_between (fns_cons d_is_tuple_of (fns_cons d_is_ratio (fns_cons d_ratio (fns_cons d_plus (fns_cons d_times (fns_cons d_is_less (fns_cons d_total (fns_cons d_dot (fns_cons d_greatest_of (fns_cons d_is_row (fns_cons d_are_rows (fns_cons d_is_setting_by (fns_cons d_many_states (fns_cons d_many_actions (fns_cons d_is_mix_of (fns_cons d_is_belief_by (fns_cons d_is_action_by (fns_cons d_is_state_by (fns_cons d_sure_by (fns_cons d_best_by (fns_cons d_worth_by (fns_cons d_value_by (fns_cons d_choice_by (fns_cons d_check_setting (fns_cons d_check_belief (fns_cons d_check_believed (fns_cons d_check_action (fns_cons d_check_state (fns_cons d_sure (fns_cons d_check_taken (fns_cons d_pay (fns_cons d_worth (fns_cons d_best_actions (fns_cons d_choice (fns_cons d_value (fns_cons d__law_well (fns_cons d__law_draw (fns_cons d__law_one (fns_cons d__law_lean (fns_cons d__law_plus (fns_cons d__law_times (fns_cons d__law_below (fns_cons d__law_dot (fns_cons d__law_minus (fns_cons d__law_over (fns_cons d__law_chance (fns_cons d__law_number (fns_cons d__law_row (fns_cons d__law_sizes (fns_cons d__law_pays (fns_cons d__law_best (fns_cons d__law_choice (fns_cons d__law_tied (fns_cons d__law_world (fns_cons d__law_moved (fns_cons d__law_there (fns_cons d__law_right (fns_cons d_law fns_nil))))))))))))))))))))))))))))))))))))))))))))))))))))))))))))
    have hb0 := bl_nil (mg := mg)
    have hb1 := bl_cons (x := "min") KX G (by k_is) hb0
    have hb2 := bl_cons (x := "max") KX G (by k_is) hb1
    have hb3 := bl_cons (x := "repr") KX G (by k_is) hb2
    have hb4 := bl_cons (x := "any") KX G (by k_is) hb3
    have hb5 := bl_cons (x := "list") KX G (by k_is) hb4
    have hb6 := bl_cons (x := "sum") KX G (by k_is) hb5
    have hb7 := bl_cons (x := "divmod") KX G (by k_is) hb6
    have hb8 := bl_cons (x := "abs") KX G (by k_is) hb7
    have hb9 := bl_cons (x := "enumerate") KX G (by k_is) hb8
    have hb10 := bl_cons (x := "range") KX G (by k_is) hb9
    have hb11 := bl_cons (x := "all") KX G (by k_is) hb10
    have hb12 := bl_cons (x := "zip") KX G (by k_is) hb11
    have hb13 := bl_cons (x := "tuple") KX G (by k_is) hb12
    have hb14 := bl_cons (x := "len") KX G (by k_is) hb13
    have hb15 := bl_cons (x := "int") KX G (by k_is) hb14
    have hb16 := bl_cons (x := "bool") KX G (by k_is) hb15
    have hb17 := bl_cons (x := "isinstance") KX G (by k_is) hb16
    refine' ev_F (B := inf) (kbs := []) (st := topS 76) KX G hf (gc_pair (x := "ZERO") (i := 0) (j := 1) KX G (by k_is) (by k_is) (gc_int (x := "MOST_STATES") (i := 4) KX G (by k_is) (gc_int (x := "MOST_ACTIONS") (i := 5) KX G (by k_is) (gc_pair (x := "ONE") (i := 1) (j := 1) KX G (by k_is) (by k_is) gc_nil)))) hb17 (fun _ => ?g) rfl (by decide +kernel) hmg (fun _ _ _ _ _ _ _ => rfl) ?a ?l
    (case g => k_is); (case a => k_is); (case l => k_is)
