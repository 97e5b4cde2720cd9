import PyProof.Rows.All
import Wide.All
import OpenK.AllK
import Wide.FinOn
import HandS.ForMost
import HandS.Text
import HandS.TryOnly
import HandS.Exc
import HandS.IsInst
import HandS.Defaults
import HandS.Deep
import PyProof.NeKinds
import PyProof.EqAt
import HandS.NoneIn
import HandS.Small
import HandS.More
import PyProof.MinMaxWalk
import PyProof.WalkInts
import HandS.List
import HandS.SortInts
import HandS.WordsDict
import HandS.Dict
import HandS.Iter
import HandS.Zip
import PyProof.Draws
import PyProof.EnumMake
import HandS.Strs
import KE.KDictZip
import KE.KDictList
import PyProof.ListNew
import HandS.ExcValue
import HandS.TupMul
import HandS.Conv
import HandS.DictTup
import HandS.SortRule
import HandS.TupSets
import PyProof.Rows.SeqCalls
import PyProof.Rows.FactsT1
import HandS.Style
import HandS.HeadHook4
import HandS.HeadEnd
import HandS.Codes
import HandS.Words
import HandS.Head0
import HandS.Head1
import HandS.Head2
import KE.KStateDown
import PySem.Challenge.RW_rowscribe_k14_whole_what_runs_was_come_t
section
set_option Elab.async false
set_option linter.all false
set_option maxRecDepth 100000
namespace Rw
open PySem L2
/-- a closed tree: nothing in it changes any more -/
inductive T where
  | non | bl (b : Bool) | int (i : Int) | str (x : Str)
  | tup (l : List T) | lst (l : List T)
  /-- the script (a locked list of ints) -/
  | scr (l : List Int)
  /-- a dict that doesn't change any more: keys, values -/
  | dct (ks : List Key) (vs : List T)
  /-- an object of an own class that doesn't change any more: its fields' names, their values -/
  | obj (c : Nat) (fs : List Str) (vs : List T)
/-- a value: a closed tree, an object of the arena, a frozen container with such in it -/
inductive D where
  | t (x : T) | ref (i : Nat) | tup (l : List D) | lst (l : List D)
/-- an object that may change -/
inductive MO where
  | lst (l : List D) | dK (l : List (Key × D)) | dT (l : List (List Key × D)) | obj (c : Nat) (l : List (Str × D)) | gone
abbrev Ar := List MO
abbrev En := List (Option D)
inductive Res (α : Type) where
  | ok (a : α) (M : Ar)
  | exc (c : Nat) (fs : List (Str × T)) (M : Ar)
  | stuck
def Res.bind {α β : Type} (r : Res α) (f : α → Ar → Res β) : Res β := match r with
  | .ok a M => f a M
  | .exc c fs M => .exc c fs M
  | .stuck => .stuck
def line : Nat := 16777216
def okIf {α : Type} (c : Bool) (r : Res α) : Res α := match c with
  | true => r
  | false => .stuck
inductive BinK where | add | sub | mul | fdiv | mod | pow
inductive CmpK where | eq | ne | lt | le | gt | ge | isIn | notIn
inductive BiK where
  | len | int | list (mu : Bool) | tuple | isInt | isBool | isList | isSeq | isStr | min2 | max2 | str | sum | dictP (mu : Bool) | minP | sortD
inductive MeK where | append | extend | pop
inductive Md where | plain | clean | peek | fresh | focus | peekD
inductive Tg where
  | var (i : Nat) | tup (l : List Tg)
mutual
inductive Ex where
  | var (i : Nat)
  | con (t : T)
  | glo (t : T)
  /-- what is never asked -/
  | bad
  | bin (o : BinK) (mu : Bool) (a b : Ex)
  | neg (a : Ex)
  | cmp (o : CmpK) (a b : Ex)
  | isN (yes : Bool) (a : Ex)
  | chain (o1 o2 : CmpK) (a b c : Ex)
  | and (es : List Ex) | or (es : List Ex) | not (a : Ex)
  | ife (c a b : Ex)
  | list (mu : Bool) (es : List Ex) | tuple (es : List Ex)
  | idx (a i : Ex)
  | slc (mu : Bool) (a : Ex) (lo hi : Option Ex)
  | bi (f : BiK) (es : List Ex)
  | me (m : MeK) (o : Ex) (es : List Ex)
  | call (m : Md) (f : Nat) (es : List Ex)
  | meth (c : Nat) (m : Str) (f : Nat) (o : Ex) (es : List Ex)
  | make (c f : Nat) (es : List Ex)
  /-- an object that nobody changes behind its __init__ -/
  | makeF (c f : Nat) (es : List Ex)
  | attr (c : Nat) (o : Ex) (f : Str)
  | pick (ks : List Str) (es : List Ex) (i : Ex)
  | tabIn (yes : Bool) (l : List (Str × T)) (a : Ex) | tabGet (l : List (Str × T)) (a : Ex)
  | dict (mu : Bool)
  | get1 (d a : Ex) | get2 (d a b : Ex)
  | pickG (ks : List Str) (es : List Ex) (i b : Ex)
  | split (a b : Ex) | join (a b : Ex)
  | comp (mu : Bool) (tg : Tg) (s : Sr) (c : Option Ex) (e : Ex)
  /-- len(set(texts)) -/
  | lenSet (a : Ex)
  /-- sorted(set(pairs)) -/
  | setSort (a : Ex)
  /-- list(zip(a, b)) -/
  | listZip (es : List Ex)
  /-- list(range(a, b)) -/
  | listRng (a b : Ex)
  /-- a tuple so many times -/
  | repT (a b : Ex)
  /-- count of texts, of lists; index; sorted(d.items()) -/
  | cntS (a b : Ex) | cntL (a b : Ex) | ixL (a b : Ex) | srtI (a : Ex)
  /-- a comprehension over the keys of a dict that doesn't change any more -/
  | compK (mu : Bool) (tg : Tg) (i : Nat) (c : Option Ex) (e : Ex)
inductive Sr where
  | seq (e : Ex) | rng (es : List Ex) | enu (e : Ex) | tab (l : List (Str × T)) | zip (a b : Ex) | rng3 (a b c : Ex)
end
inductive Sm where
  | asg (tg : Tg) (e : Ex)
  | fld (c : Nat) (o : Ex) (f : Str) (e : Ex)
  | sub (o i e : Ex)
  | expr (e : Ex)
  | ret (e : Option Ex)
  | ite (c : Ex) (a b : List Sm)
  | for (tg : Tg) (s : Sr) (b : List Sm)
  | whl (c : Ex) (b : List Sm)
  | raise (c f : Nat) (es : List Ex)
  | bad
  /-- for over the keys of a dict that doesn't change any more -/
  | forK (tg : Tg) (i : Nat) (b : List Sm)
inductive Fl where
  | nx (r : En) | rt (d : D)
def allT : List D → Option (List T)
  | [] => some []
  | .t x :: r => (match allT r with
    | some l => some (x :: l)
    | none => none)
  | _ :: _ => none
def frzL (l : List D) : D := match allT l with
  | some ts => .t (.lst ts)
  | none => .lst l
def frzT (l : List D) : D := match allT l with
  | some ts => .t (.tup ts)
  | none => .tup l
def mkL (mu : Bool) (l : List D) (M : Ar) : Res D := match mu with
  | true => .ok (.ref M.length) (M ++ [.lst l])
  | false => .ok (frzL l) M
def mkLn (mu : Bool) (l : List D) (M : Ar) : Res D := okIf (decide (l.length ≤ line)) (mkL mu l M)
def keyD : D → Option Key
  | .t (.int i) => some (.inl i)
  | .t (.str x) => some (.inr x)
  | _ => none
def valD {κ : Type} [DecidableEq κ] (l : List (κ × D)) (k : κ) : Option D := (l.find? fun q => decide (q.1 = k)).map (·.2)
def putKD {κ : Type} [DecidableEq κ] (l : List (κ × D)) (k : κ) (d : D) : List (κ × D) :=
  if (l.any fun q => decide (q.1 = k)) = true then l.map (fun q => if q.1 = k then (q.1, d) else q) else l ++ [(k, d)]
def mergeKD (l m : List (Key × D)) : List (Key × D) := m.foldl (fun a q => putKD a q.1 q.2) l
/-- a dict's pairs -/
def dkOf (M : Ar) : D → Option (List (Key × D))
  | .t (.dct ks vs) => some (ks.zip (vs.map .t))
  | .ref i => (match M[i]? with
    | some (.dK l) => some l
    | _ => none)
  | _ => none
def frzD (l : List (Key × D)) : Option D := match allT (l.map (·.2)) with
  | some ts => some (.t (.dct (l.map (·.1)) ts))
  | none => none
def mkD (mu : Bool) (l : List (Key × D)) (M : Ar) : Res D := match mu with
  | true => .ok (.ref M.length) (M ++ [.dK l])
  | false => (match frzD l with
    | some d => .ok d M
    | none => .stuck)
/-- a text -/
def stOf : D → Option Str
  | .t (.str x) => some x
  | _ => none
/-- a list's items -/
def lsOf (M : Ar) : D → Option (List D)
  | .t (.lst l) => some (l.map .t)
  | .lst l => some l
  | .ref i => (match M[i]? with
    | some (.lst l) => some l
    | _ => none)
  | _ => none
/-- a tuple's items -/
def tpOf : D → Option (List D)
  | .t (.tup l) => some (l.map .t)
  | .tup l => some l
  | _ => none
/-- the script's -/
def scOf : D → Option (List D)
  | .t (.scr l) => some (l.map fun i => .t (.int i))
  | _ => none
def sqOf (M : Ar) (d : D) : Option (List D) := match lsOf M d with
  | some l => some l
  | none => (match tpOf d with
    | some l => some l
    | none => scOf d)
def mapO {α β : Type} (f : α → Option β) : List α → Option (List β)
  | [] => some []
  | a :: r => (match f a with
    | some b => (match mapO f r with
      | some l => some (b :: l)
      | none => none)
    | none => none)
/-- a value as a closed tree, as it stands now -/
def snap (M : Ar) : Nat → D → Option T
  | _, .t x => some x
  | 0, _ => none
  | n + 1, .ref i => (match M[i]? with
    | some (.lst l) => (mapO (snap M n) l).map .lst
    | some (.dK l) => (mapO (snap M n) (l.map (·.2))).map (.dct (l.map (·.1)))
    | some (.obj c l) => (mapO (snap M n) (l.map (·.2))).map (.obj c (l.map (·.1)))
    | _ => none)
  | n + 1, .tup l => (mapO (snap M n) l).map .tup
  | n + 1, .lst l => (mapO (snap M n) l).map .lst
def deep : Nat := 6
mutual
def toPy : T → PyData
  | .non => .none
  | .bl b => .bool b
  | .int i => .int i
  | .str x => .str x
  | .tup l => .tuple (toPys l)
  | .lst l => .list (toPys l)
  | .scr _ => .dict []
  | .dct _ _ => .dict []
  | .obj _ _ _ => .dict []
def toPys : List T → List PyData
  | [] => []
  | x :: r => toPy x :: toPys r
end
def eqV3 (M : Ar) (x y : D) (k : Bool → Bool) : Res D := match snap M deep x, snap M deep y with
  | some a, some b => okIf (SeqAt.shaped (toPy a) && SeqAt.shaped (toPy b)) (.ok (.t (.bl (k (PyData.eqv (toPy a) (toPy b))))) M)
  | _, _ => .stuck
/-- lists of unlike lengths are told apart by these -/
def eqV2 (M : Ar) (x y : D) (k : Bool → Bool) : Res D := match lsOf M x, lsOf M y with
  | some l, some m => (match decide (l.length = m.length) with
    | true => eqV3 M x y k
    | false => .ok (.t (.bl (k false))) M)
  | _, _ => eqV3 M x y k
/-- a scalar -/
def scV : D → Option V
  | .t .non => some .non
  | .t (.bl b) => some (.bl b)
  | .t (.int i) => some (.int i)
  | .t (.str x) => some (.str x)
  | _ => none
def inV2 (M : Ar) (x y : D) (k : Bool → Bool) : Res D := match scV x, (sqOf M y).bind (mapO scV) with
  | some v, some vs => .ok (.t (.bl (k (inV v vs)))) M
  | _, _ => .stuck
/-- a tuple in a list of such -/
def inDp (M : Ar) (x y : D) (k : Bool → Bool) : Res D := match snap M deep x, snap M deep y with
  | some a, some (.lst bs) => okIf (SeqAt.shaped (toPy a) && SeqAt.shaped (.list (toPys bs))) (.ok (.t (.bl (k ((toPys bs).any fun z => PyData.eqv z (toPy a))))) M)
  | _, _ => .stuck
/-- one sign in a text -/
def sgOf (x : Str) : Option Nat := match x.cps.toList with
  | [c] => some c
  | _ => none
def inS1 (M : Ar) (x y : Str) (k : Bool → Bool) : Res D := match sgOf x with
  | some c => .ok (.t (.bl (k (decide (c ∈ y.cps.toList))))) M
  | none => .ok (.t (.bl (k (!(Builtin.Str.occurrences y x 0 y.length 1).isEmpty)))) M
def inV1 (M : Ar) (x y : D) (k : Bool → Bool) : Res D := match stOf y with
  | some t => (match stOf x with
    | some s => inS1 M s t k
    | none => .stuck)
  | none => (match dkOf M y with
    | some l => (match keyD x with
      | some q => .ok (.t (.bl (k (valD l q).isSome))) M
      | none => (match x with
        | .t .non => .ok (.t (.bl (k false))) M
        | _ => .stuck))
    | none => (match scV x with
      | some _ => inV2 M x y k
      | none => inDp M x y k))
def cmpI : CmpK → Int → Int → Option Bool
  | .lt, i, j => some (decide (i < j))
  | .le, i, j => some (decide (i ≤ j))
  | .gt, i, j => some (decide (j < i))
  | .ge, i, j => some (decide (j ≤ i))
  | _, _, _ => none
def cmpN (o : CmpK) (x y : D) (M : Ar) : Res D := match x, y with
  | .t (.int i), .t (.int j) => (match cmpI o i j with
    | some b => .ok (.t (.bl b)) M
    | none => .stuck)
  | _, _ => .stuck
def cmpV (o : CmpK) (x y : D) (M : Ar) : Res D := match o with
  | .eq => eqV2 M x y id
  | .ne => eqV2 M x y not
  | .isIn => inV1 M x y id
  | .notIn => inV1 M x y not
  | .lt => cmpN .lt x y M
  | .le => cmpN .le x y M
  | .gt => cmpN .gt x y M
  | .ge => cmpN .ge x y M
def repL (mu : Bool) (l : List D) (k : Int) (M : Ar) : Res D :=
  okIf (decide (-(2 ^ 63) ≤ k) && decide (k < 2 ^ 63) && decide (l.length * k.toNat ≤ line)) (mkL mu (List.replicate k.toNat l).flatten M)
def binV (o : BinK) (mu : Bool) (x y : D) (M : Ar) : Res D := match x, y with
  | .t (.int i), .t (.int j) => (match o with
    | .add => .ok (.t (.int (i + j))) M
    | .sub => .ok (.t (.int (i - j))) M
    | .mul => okIf ((decide (-(2 ^ 64) < i) && decide (i < 2 ^ 64)) || (decide (-(2 ^ 64) < j) && decide (j < 2 ^ 64))) (.ok (.t (.int (i * j))) M)
    | .fdiv => okIf (decide (0 < j) && decide (j < 1073741824)) (.ok (.t (.int (i / j))) M)
    | .mod => okIf (decide (0 < j)) (.ok (.t (.int (i % j))) M)
    | .pow => okIf (decide (0 ≤ j) && decide (j ≤ 1000000) && decide (i.natAbs < 2 ^ 64)) (.ok (.t (.int (i ^ j.toNat))) M))
  | .t (.str a), .t (.str b) => (match o with
    | .add => okIf (decide (a.length + b.length ≤ line)) (.ok (.t (.str (a ++ b))) M)
    | _ => .stuck)
  | x, y => (match o, lsOf M x, lsOf M y with
    | .add, some l, some m => mkLn mu (l ++ m) M
    | .mul, some l, none => (match y with
      | .t (.int k) => repL mu l k M
      | _ => .stuck)
    | _, _, _ => .stuck)
def idxS (x : Str) (y : D) (M : Ar) : Res D := match y with
  | .t (.int i) => okIf (decide (x.length ≤ line)) (match atI x.cps.toList i with
    | some c => .ok (.t (.str ⟨#[c]⟩)) M
    | none => .stuck)
  | _ => .stuck
def idxD (l : List (Key × D)) (y : D) (M : Ar) : Res D := match keyD y with
  | some k => (match valD l k with
    | some d => .ok d M
    | none => .stuck)
  | none => .stuck
def idxQ (x y : D) (M : Ar) : Res D := match sqOf M x, y with
  | some l, .t (.int i) => (match atI l i with
    | some d => .ok d M
    | none => .stuck)
  | _, _ => .stuck
def idxV (x y : D) (M : Ar) : Res D := match stOf x with
  | some s => idxS s y M
  | none => (match dkOf M x with
    | some l => idxD l y M
    | none => idxQ x y M)
def cut {α : Type} (xs : List α) (lo hi : Option Int) : List α := (xs.drop (HT.sIx xs.length 0 lo)).take (HT.sIx xs.length xs.length hi - HT.sIx xs.length 0 lo)
def slcQ (mu : Bool) (x : D) (lo hi : Option Int) (M : Ar) : Res D := match lsOf M x with
  | some l => mkL mu (cut l lo hi) M
  | none => (match tpOf x with
    | some l => okIf (!(decide (HT.sIx l.length 0 lo = 0) && decide (HT.sIx l.length l.length hi = l.length))) (.ok (frzT (cut l lo hi)) M)
    | none => .stuck)
def slcV (mu : Bool) (x : D) (lo hi : Option Int) (M : Ar) : Res D := match stOf x with
  | some s => okIf (decide (s.length ≤ line)) (.ok (.t (.str (cutS s lo hi))) M)
  | none => slcQ mu x lo hi M
def truV (d : D) (M : Ar) : Res Bool := match d with
  | .t (.bl b) => .ok b M
  | _ => .stuck
inductive Ty where | non | bl | int | str | tup | lst | dct
def Ty.name : Ty → String
  | .non => "NoneType" | .bl => "bool" | .int => "int" | .str => "str" | .tup => "tuple" | .lst => "list" | .dct => "dict"
def tyT : T → Option Ty
  | .non => some .non | .bl _ => some .bl | .int _ => some .int | .str _ => some .str | .tup _ => some .tup | .lst _ => some .lst | .scr _ => some .lst | .dct _ _ => some .dct | .obj _ _ _ => none
def tyD (M : Ar) : D → Option Ty
  | .t x => tyT x
  | .tup _ => some .tup
  | .lst _ => some .lst
  | .ref i => (match M[i]? with
    | some (.lst _) => some .lst
    | some (.dK _) => some .dct
    | _ => none)
def isTy : BiK → Ty → Bool
  | .isInt, .int => true
  | .isInt, .bl => true
  | .isBool, .bl => true
  | .isList, .lst => true
  | .isSeq, .lst => true
  | .isSeq, .tup => true
  | .isStr, .str => true
  | _, _ => false
def isV (f : BiK) (d : D) (M : Ar) : Res D := match tyD M d with
  | some t => .ok (.t (.bl (isTy f t))) M
  | none => .stuck
def lenV (d : D) (M : Ar) : Res D := match stOf d with
  | some s => okIf (decide (s.length ≤ line)) (.ok (.t (.int s.length)) M)
  | none => (match sqOf M d with
    | some l => .ok (.t (.int l.length)) M
    | none => (match d with
      | .ref i => (match M[i]? with
        | some (.dK l) => .ok (.t (.int l.length)) M
        | _ => .stuck)
      | _ => .stuck))
def inOf : D → Option Int
  | .t (.int i) => some i
  | _ => none
/-- a tuple of ints -/
def itOf (d : D) : Option (List Int) := (tpOf d).bind (mapO inOf)
/-- where the least stands, of alike ones the first -/
def bestI (ks : List (List Int)) : Nat → Nat
  | 0 => 0
  | k + 1 => if HT.lexLt ((ks[k + 1]?).getD []) ((ks[bestI ks k]?).getD []) = true then k + 1 else bestI ks k
def minV (d : D) (M : Ar) : Res D := match lsOf M d with
  | some l => (match mapO itOf l with
    | some ks => (match l with
      | [] => .stuck
      | l => (match l[bestI ks (l.length - 1)]? with
        | some d => .ok d M
        | none => .stuck))
    | none => .stuck)
  | none => .stuck
/-- ints, rising -/
def insI (x : Int) : List Int → List Int
  | [] => [x]
  | y :: r => if x ≤ y then x :: y :: r else y :: insI x r
def sortI : List Int → List Int
  | [] => []
  | x :: r => insI x (sortI r)
/-- texts, rising -/
def insS (x : Str) : List Str → List Str
  | [] => [x]
  | y :: r => if y.cps.toList < x.cps.toList then y :: insS x r else x :: y :: r
def sortS : List Str → List Str
  | [] => []
  | x :: r => insS x (sortS r)
def keyI : Key → Option Int
  | .inl i => some i
  | _ => none
def keyS : Key → Option Str
  | .inr x => some x
  | _ => none
def sortDV (d : D) (M : Ar) : Res D := match dkOf M d with
  | some l => okIf (decide (l.length ≤ line)) (match mapO keyI (l.map (·.1)) with
    | some is => .ok (.t (.lst ((sortI is).map .int))) M
    | none => (match mapO keyS (l.map (·.1)) with
      | some ks => okIf (decide (ks.length < 64)) (.ok (.t (.lst ((sortS ks).map .str))) M)
      | none => .stuck))
  | none => .stuck
def pairD (M : Ar) (d : D) : Option (Key × D) := match tpOf d with
  | some [a, b] => (keyD a).map fun k => (k, b)
  | _ => none
def biV (f : BiK) (ds : List D) (M : Ar) : Res D := match f, ds with
  | .len, [d] => lenV d M
  | .sum, [d] => (match (lsOf M d).bind (mapO inOf) with
    | some l => .ok (.t (.int l.sum)) M
    | none => .stuck)
  | .dictP mu, [d] => (match (lsOf M d).bind (mapO (pairD M)) with
    | some l => mkD mu (mergeKD [] l) M
    | none => .stuck)
  | .minP, [d] => minV d M
  | .sortD, [d] => sortDV d M
  | .str, [.t (.int i)] => okIf (decide (i.natAbs.log2 < 1920)) (.ok (.t (.str (toString i : String))) M)
  | .int, [.t (.str a)] => (match PySem.intText? a with
    | some n => okIf (decide (a.length ≤ 640)) (.ok (.t (.int n)) M)
    | none => .stuck)
  | .int, [.t (.int i)] => .ok (.t (.int i)) M
  | .int, [.t (.bl b)] => .ok (.t (.int (if b then 1 else 0))) M
  | .list mu, [d] => (match lsOf M d with
    | some l => mkL mu l M
    | none => (match tpOf d with
      | some l => mkL mu l M
      | none => .stuck))
  | .tuple, [d] => (match lsOf M d with
    | some l => .ok (frzT l) M
    | none => (match tpOf d with
      | some _ => .ok d M
      | none => .stuck))
  | .isInt, [d] => isV .isInt d M
  | .isBool, [d] => isV .isBool d M
  | .isList, [d] => isV .isList d M
  | .isSeq, [d] => isV .isSeq d M
  | .isStr, [d] => isV .isStr d M
  | .min2, [.t (.int i), .t (.int j)] => .ok (.t (.int (if j < i then j else i))) M
  | .max2, [.t (.int i), .t (.int j)] => .ok (.t (.int (if j > i then j else i))) M
  | _, _ => .stuck
def meV (m : MeK) (o : D) (ds : List D) (M : Ar) : Res D := match o with
  | .ref i => (match M[i]? with
    | some (.lst l) => (match m, ds with
      | .append, [d] => okIf (decide (l.length < line)) (.ok (.t .non) (M.set i (.lst (l ++ [d]))))
      | .extend, [d] => (match d with
        | .ref _ => .stuck
        | d => (match lsOf M d with
          | some k => okIf (decide (l.length + k.length ≤ line)) (.ok (.t .non) (M.set i (.lst (l ++ k))))
          | none => .stuck))
      | .pop, [] => (match l[l.length - 1]? with
        | some d => .ok d (M.set i (.lst l.dropLast))
        | none => .stuck)
      | _, _ => .stuck)
    | _ => .stuck)
  | _ => .stuck
def putD (f : Str) (v : D) : List (Str × D) → List (Str × D)
  | [] => [(f, v)]
  | (g, x) :: r => if g = f then (g, v) :: r else (g, x) :: putD f v r
/-- the fields of an object of the class c -/
def objOf (M : Ar) (c : Nat) : D → Option (List (Str × D))
  | .ref i => (match M[i]? with
    | some (.obj k fs) => (match decide (k = c) with
      | true => some fs
      | false => none)
    | _ => none)
  | _ => none
/-- .. or of one that doesn't change any more -/
def fdOf (M : Ar) (c : Nat) : D → Option (List (Str × D))
  | .t (.obj k fs vs) => (match decide (k = c) with
    | true => some (fs.zip (vs.map .t))
    | false => none)
  | d => objOf M c d
def setO (M : Ar) (d : D) (o : MO) : Ar := match d with
  | .ref i => M.set i o
  | _ => M
def fldV (c : Nat) (o : D) (f : Str) (v : D) (M : Ar) : Res Unit := match objOf M c o with
  | some fs => okIf (decide (fs.length < 1000)) (.ok () (setO M o (.obj c (putD f v fs))))
  | none => .stuck
def attrV (c : Nat) (o : D) (f : Str) (M : Ar) : Res D := match fdOf M c o with
  | some fs => (match fs.lookup f with
    | some d => .ok d M
    | none => .stuck)
  | none => .stuck
def methB (M : Ar) (c : Nat) (m : Str) (o : D) : Bool := match objOf M c o with
  | some fs => (match fs.lookup m with
    | some _ => false
    | none => true)
  | none => false
def isLst (M : Ar) (o : D) : Bool := match lsOf M o with
  | some _ => true
  | none => false
def subV (o i v : D) (M : Ar) : Res Unit := match o with
  | .ref a => (match M[a]? with
    | some (.lst l) => (match i with
      | .t (.int k) => (match ixN l.length k with
        | some j => .ok () (M.set a (.lst (l.set j v)))
        | none => .stuck)
      | _ => .stuck)
    | some (.dK l) => (match keyD i with
      | some k => okIf (decide (l.length < line)) (.ok () (M.set a (.dK (putKD l k v))))
      | none => .stuck)
    | _ => .stuck)
  | _ => .stuck
def pickV (ks : List Str) (ds : List D) (i : D) (M : Ar) : Res D := match i with
  | .t (.str x) => (match (ks.zip ds).lookup x with
    | some d => .ok d M
    | none => .stuck)
  | _ => .stuck
/-- a turn's items: fixed, or those of a list of the arena as it stands at each turn -/
inductive Itm where
  | fix (l : List D) | live (i n : Nat)
def rngL (lo hi : Int) : List D := (List.range (hi - lo).toNat).map fun (k : Nat) => .t (.int (lo + (k : Int)))
def small (i : Int) : Bool := decide (-(2 ^ 62) ≤ i) && decide (i < 2 ^ 62)
def enuL (k : Nat) : List D → List D
  | [] => []
  | d :: r => frzT [.t (.int k), d] :: enuL (k + 1) r
/-- a text's signs -/
def sgL (x : Str) : List D := x.cps.toList.map fun c => .t (.str ⟨#[c]⟩)
def srSeq (d : D) (M : Ar) : Res Itm := match d with
  | .ref i => (match M[i]? with
    | some (.lst l) => .ok (.live i l.length) M
    | _ => .stuck)
  | .t (.str x) => .ok (.fix (sgL x)) M
  | d => (match sqOf M d with
    | some l => .ok (.fix l) M
    | none => .stuck)
def srRng (ds : List D) (M : Ar) : Res Itm := match ds with
  | [.t (.int j)] => okIf (small j) (.ok (.fix (rngL 0 j)) M)
  | [.t (.int i), .t (.int j)] => okIf (small i && small j) (.ok (.fix (rngL i j)) M)
  | _ => .stuck
def srEnu (d : D) (M : Ar) : Res Itm := match d with
  | .ref _ => .stuck
  | .t (.str x) => .ok (.fix (enuL 0 (sgL x))) M
  | d => (match lsOf M d with
    | some l => .ok (.fix (enuL 0 l)) M
    | none => .stuck)
def zipL : List D → List D → List D
  | a :: l, b :: m => frzT [a, b] :: zipL l m
  | _, _ => []
def srZip (d e : D) (M : Ar) : Res Itm := match d, e with
  | .ref _, _ => .stuck
  | _, .ref _ => .stuck
  | d, e => (match lsOf M d, lsOf M e with
    | some l, some m => .ok (.fix (zipL l m)) M
    | _, _ => .stuck)
/-- how many unlike texts -/
def unl : List Str → List Str → Nat
  | _, [] => 0
  | seen, x :: r => (if x ∈ seen then 0 else 1) + unl (seen ++ [x]) r
def onOf : D → Option (Option Int)
  | .t (.int i) => some (some i)
  | .t .non => some none
  | _ => none
def cntSV (x y : D) (M : Ar) : Res D := match stOf x, stOf y with
  | some a, some b => .ok (.t (.int (Txt.count a b))) M
  | _, _ => .stuck
def cntLV (x y : D) (M : Ar) : Res D := match (lsOf M x).bind (mapO onOf), y with
  | some l, .t (.int i) => .ok (.t (.int (l.count (some i) : Nat))) M
  | _, _ => .stuck
def ixLV (x y : D) (M : Ar) : Res D := match (lsOf M x).bind (mapO onOf), y with
  | some l, .t (.int i) => okIf (decide (some i ∈ l)) (.ok (.t (.int (l.idxOf (some i) : Nat))) M)
  | _, _ => .stuck
def itI : Key × D → Option (Int × Int)
  | (.inl i, .t (.int j)) => some (i, j)
  | _ => none
def lexP (p q : Int × Int) : Bool := decide (p.1 < q.1) || (decide (p.1 = q.1) && decide (p.2 < q.2))
def insP (x : Int × Int) : List (Int × Int) → List (Int × Int)
  | [] => [x]
  | y :: r => if lexP y x = true then y :: insP x r else x :: y :: r
def sortP : List (Int × Int) → List (Int × Int)
  | [] => []
  | x :: r => insP x (sortP r)
def pr2T (q : Int × Int) : T := .tup [.int q.1, .int q.2]
def srtIV (x : D) (M : Ar) : Res D := match x with
  | .ref i => (match M[i]? with
    | some (.dK l) => (match mapO itI l with
      | some ps => .ok (.t (.lst ((sortP ps).map pr2T))) M
      | none => .stuck)
    | _ => .stuck)
  | _ => .stuck
/-- sorted(set(pairs)) -/
def prI : D → Option (Int × Int)
  | .t (.tup [.int i, .int j]) => some (i, j)
  | _ => none
def ndP : List (Int × Int) → List (Int × Int)
  | [] => []
  | x :: r => if x ∈ ndP r then ndP r else x :: ndP r
def setSortV (d : D) (M : Ar) : Res D := match (lsOf M d).bind (mapO prI) with
  | some ps => okIf (decide (ps.length ≤ 300)) (.ok (.t (.lst ((sortP (ndP ps)).map pr2T))) M)
  | none => .stuck
def lenSetV (d : D) (M : Ar) : Res D := match (lsOf M d).bind (mapO stOf) with
  | some xs => okIf (decide (xs.length < 4000)) (.ok (.t (.int (unl [] xs))) M)
  | none => .stuck
def listZipV (ds : List D) (M : Ar) : Res D := match ds with
  | [x, y] => (match lsOf M x, lsOf M y with
    | some l, some m => .ok (frzL (zipL l m)) M
    | _, _ => .stuck)
  | _ => .stuck
def listRngV (x y : D) (M : Ar) : Res D := match x, y with
  | .t (.int i), .t (.int j) => okIf (decide (0 ≤ i) && decide (i ≤ 16777216) && decide (0 ≤ j) && decide (j ≤ 16777216)) (.ok (frzL (rngL i j)) M)
  | _, _ => .stuck
def repTV (x y : D) (M : Ar) : Res D := match tpOf x, y with
  | some l, .t (.int k) => okIf (!l.isEmpty && decide (1 ≤ k) && decide (k ≤ 1000) && decide (l.length ≤ 1000)) (.ok (frzT (List.replicate k.toNat l).flatten) M)
  | _, _ => .stuck
def kD : Key → D
  | .inl i => .t (.int i)
  | .inr x => .t (.str x)
/-- how many turns a range of a step has -/
def rngN (a b c : Int) : Nat := (Builtin.Range.rangeSize a b c).toNat
def rngC (a c : Int) (n : Nat) : List D := (List.range n).map fun (k : Nat) => .t (.int (a + (k : Int) * c))
def srRng3 (x y z : D) (M : Ar) : Res Itm := match x, y, z with
  | .t (.int a), .t (.int b), .t (.int c) => okIf (decide (c ≠ 0) && decide (c.natAbs < 1073741824) && Builtin.Range.small a b c && decide (0 ≤ Builtin.Range.rangeSize a b c)) (.ok (.fix (rngC a c (rngN a b c))) M)
  | _, _, _ => .stuck
def getV (l : List (Key × D)) (y b : D) (M : Ar) : Res D := match keyD y with
  | some k => .ok ((valD l k).getD b) M
  | none => .stuck
def pickGV (ks : List Str) (ds : List D) (i b : D) (M : Ar) : Res D := match keyD i with
  | some (.inr x) => .ok (((ks.zip ds).lookup x).getD b) M
  | _ => .stuck
def splitV (x y : D) (M : Ar) : Res D := match stOf x, stOf y with
  | some a, some b => okIf (!(b.length == 0) && decide (a.length + 2 ≤ line)) (.ok (.t (.lst ((Txt.split a b).map .str))) M)
  | _, _ => .stuck
def joinV (x y : D) (M : Ar) : Res D := match stOf x, (lsOf M y).bind (mapO stOf) with
  | some a, some ys => okIf (decide ((ys.map (·.length)).sum + ys.length * a.length ≤ 16777216)) (.ok (.t (.str (Txt.join a ys))) M)
  | _, _ => .stuck
def tabInV (yes : Bool) (l : List (Str × T)) (x : D) (M : Ar) : Res D := match x with
  | .t (.str s) => .ok (.t (.bl (match l.lookup s with | some _ => yes | none => !yes))) M
  | .t .non => .ok (.t (.bl (!yes))) M
  | _ => .stuck
def tabGetV (l : List (Str × T)) (x : D) (M : Ar) : Res D := match x with
  | .t (.str s) => (match l.lookup s with
    | some t => .ok (.t t) M
    | none => .stuck)
  | _ => .stuck
mutual
def Tg.slots : Tg → List Nat
  | .var i => [i]
  | .tup l => slotsL l
def slotsL : List Tg → List Nat
  | [] => []
  | t :: r => t.slots ++ slotsL r
end
def wipeE (r : En) : List Nat → En
  | [] => r
  | v :: vs => (wipeE r vs).set v none
mutual
def asg : Tg → D → Ar → En → Option En
  | .var i, d, _, r => if i < r.length then some (r.set i (some d)) else none
  | .tup ts, d, M, r => (match tpOf d with
    | some l => asgs ts l M r
    | none => (match lsOf M d with
      | some l => asgs ts l M r
      | none => none))
def asgs : List Tg → List D → Ar → En → Option En
  | [], [], _, r => some r
  | t :: ts, d :: ds, M, r => (match asg t d M r with
    | some r' => asgs ts ds M r'
    | none => none)
  | _, _, _, _ => none
end
def forF (b : D → En → Ar → Res Fl) : List D → En → Ar → Res Fl
  | [], r, M => .ok (.nx r) M
  | d :: l, r, M => (b d r M).bind fun f M => match f with
    | .nx r' => forF b l r' M
    | .rt x => .ok (.rt x) M
def forL (b : D → En → Ar → Res Fl) (i : Nat) : Nat → Nat → En → Ar → Res Fl
  | 0, _, _, _ => .stuck
  | n + 1, j, r, M => (match M[i]? with
    | some (.lst l) => (match l[j]? with
      | none => .ok (.nx r) M
      | some d => (b d r M).bind fun f M => match f with
        | .nx r' => forL b i n (j + 1) r' M
        | .rt x => .ok (.rt x) M)
    | _ => .stuck)
def forI (b : D → En → Ar → Res Fl) : Itm → En → Ar → Res Fl
  | .fix l, r, M => forF b l r M
  | .live i n, r, M => forL b i (n + 1) 0 r M
def whl (c : En → Ar → Res Bool) (b : En → Ar → Res Fl) : Nat → En → Ar → Res Fl
  | 0, _, _ => .stuck
  | n + 1, r, M => (c r M).bind fun t M => match t with
    | false => .ok (.nx r) M
    | true => (b r M).bind fun f M => match f with
      | .nx r' => whl c b n r' M
      | .rt x => .ok (.rt x) M
/-- a comprehension's turns: none where the test says no -/
def cmpF (b : D → Ar → Res (Option D)) : List D → List D → Ar → Res (List D)
  | [], acc, M => .ok acc M
  | d :: l, acc, M => (b d M).bind fun o M => match o with
    | none => cmpF b l acc M
    | some x => okIf (decide (acc.length < line)) (cmpF b l (acc ++ [x]) M)
def cmpL (b : D → Ar → Res (Option D)) (i : Nat) : Nat → Nat → List D → Ar → Res (List D)
  | 0, _, _, _ => .stuck
  | n + 1, j, acc, M => (match M[i]? with
    | some (.lst l) => (match l[j]? with
      | none => .ok acc M
      | some d => (b d M).bind fun o M => match o with
        | none => cmpL b i n (j + 1) acc M
        | some x => okIf (decide (acc.length < line)) (cmpL b i n (j + 1) (acc ++ [x]) M))
    | _ => .stuck)
def cmpItm (b : D → Ar → Res (Option D)) : Itm → Ar → Res (List D)
  | .fix l, M => cmpF b l [] M
  | .live i n, M => cmpL b i (n + 1) 0 [] M
def wfuel : Nat := 1000000000
abbrev Cal := Nat → List D → Ar → Res D
/-- the module's part: constants, tables, global names of defs, (class, method, def), (class, its name, its __init__), (class, attribute) -/
structure Pg where
  consts : List (Str × T)
  tabs : List (Str × List (Str × T))
  gname : List (Nat × Str)
  meths : List (Nat × Str × Nat)
  makes : List (Nat × Str × Nat)
  flds : List (Nat × Str)
mutual
def shD (n : Nat) : D → D
  | .t x => .t x
  | .ref i => .ref (n + i)
  | .tup l => .tup (shDs n l)
  | .lst l => .lst (shDs n l)
def shDs (n : Nat) : List D → List D
  | [] => []
  | d :: l => shD n d :: shDs n l
end
def shP {α : Type} (n : Nat) : List (α × D) → List (α × D)
  | [] => []
  | q :: l => (q.1, shD n q.2) :: shP n l
def shO (n : Nat) : MO → MO
  | .lst l => .lst (shDs n l)
  | .dK l => .dK (shP n l)
  | .dT l => .dT (shP n l)
  | .obj c l => .obj c (shP n l)
  | .gone => .gone
/-- what a call that saw the one list alone leaves: its answer, the list -/
def foc (M : Ar) (i : Nat) (d : D) (M1 : Ar) : Res D := match M1 with
  | .lst l :: r => (match allT l, snap (.gone :: r) deep d with
    | some _, some t => .ok (.t t) (M.set i (.lst l))
    | _, _ => .stuck)
  | _ => .stuck
def scT : D → Option T
  | .t .non => some .non
  | .t (.bl b) => some (.bl b)
  | .t (.int i) => some (.int i)
  | .t (.str x) => some (.str x)
  | _ => none
/-- a new list or dict of scalars -/
def newV (i : Nat) (M1 : Ar) (M : Ar) : Res D := match M1[i]? with
  | some (.dK l) => (match mapO scT (l.map (·.2)) with
    | some ts => .ok (.t (.dct (l.map (·.1)) ts)) M
    | none => .stuck)
  | some (.lst l) => (match mapO scT l with
    | some ts => .ok (.t (.lst ts)) M
    | none => .stuck)
  | _ => .stuck
def callV (G : Cal) (m : Md) (f : Nat) (ds : List D) (M : Ar) : Res D := match m with
  | .plain => G f ds M
  | .clean => (match allT ds with
    | none => .stuck
    | some ts => (match G f (ts.map .t) [] with
      | .ok d M1 => (match snap M1 deep d with
        | some t => .ok (.t t) M
        | none => .stuck)
      | .exc c fs _ => .exc c fs M
      | .stuck => .stuck))
  | .peek => (match mapO (snap M deep) ds with
    | none => .stuck
    | some ts => (match G f (ts.map .t) [] with
      | .ok d _ => (match scV d with
        | some _ => .ok d M
        | none => .stuck)
      | .exc _ _ _ => .stuck
      | .stuck => .stuck))
  | .peekD => (match mapO (snap M deep) ds with
    | none => .stuck
    | some ts => (match G f (ts.map .t) [] with
      | .ok (.ref i) M1 => newV i M1 M
      | _ => .stuck))
  | .fresh => (match allT ds with
    | none => .stuck
    | some ts => (match G f (ts.map .t) [] with
      | .ok d M1 => .ok (shD M.length d) (M ++ M1.map (shO M.length))
      | .exc c fs _ => .exc c fs M
      | .stuck => .stuck))
  | .focus => (match ds with
    | .ref i :: ds' => (match M[i]?, allT ds' with
      | some (.lst l), some ts => (match allT l with
        | some _ => (match G f (.ref 0 :: ts.map .t) [.lst l] with
          | .ok d M1 => foc M i d M1
          | _ => .stuck)
        | none => .stuck)
      | _, _ => .stuck)
    | _ => .stuck)
/-- an object that its __init__ alone has changed -/
def makeFV (G : Cal) (c f : Nat) (ds : List D) (M : Ar) : Res D := match allT ds with
  | none => .stuck
  | some ts => (match G f (.ref 0 :: ts.map .t) [.obj c []] with
    | .ok (.t .non) M1 => (match snap M1 deep (.ref 0) with
      | some t => .ok (.t t) M
      | none => .stuck)
    | .exc c fs _ => .exc c fs M
    | _ => .stuck)
def keysAt (r : En) (i : Nat) : Option (List D) := match r[i]? with
  | some (some (.t (.dct ks _))) => some (ks.map kD)
  | _ => none
def isNB (yes : Bool) : D → Bool
  | .t .non => yes
  | _ => !yes
def noExc {α : Type} (r : Res α) : Res α := match r with
  | .exc _ _ _ => .stuck
  | r => r
section
variable (G : Cal)
mutual
def evE : Ex → En → Ar → Res D
  | .var i, r, M => (match r[i]? with
    | some (some d) => .ok d M
    | _ => .stuck)
  | .con t, _, M => .ok (.t t) M
  | .glo t, _, M => .ok (.t t) M
  | .bad, _, _ => .stuck
  | .bin o mu a b, r, M => (evE a r M).bind fun x M => (evE b r M).bind fun y M => binV o mu x y M
  | .neg a, r, M => (evE a r M).bind fun x M => match x with
    | .t (.int i) => .ok (.t (.int (-i))) M
    | _ => .stuck
  | .cmp o a b, r, M => (evE a r M).bind fun x M => (evE b r M).bind fun y M => cmpV o x y M
  | .isN yes a, r, M => (evE a r M).bind fun x M => .ok (.t (.bl (isNB yes x))) M
  | .chain o1 o2 a b c, r, M => (evE a r M).bind fun x M => (evE b r M).bind fun y M => (cmpV o1 x y M).bind fun z M => (truV z M).bind fun k M => match k with
    | true => (evE c r M).bind fun u M => cmpV o2 y u M
    | false => .ok (.t (.bl false)) M
  | .and es, r, M => evAnd es r M
  | .or es, r, M => evOr es r M
  | .not a, r, M => (evE a r M).bind fun x M => (truV x M).bind fun k M => .ok (.t (.bl (!k))) M
  | .ife c a b, r, M => ((evE c r M).bind truV).bind fun k M => match k with
    | true => evE a r M
    | false => evE b r M
  | .list mu es, r, M => (evEs es r M).bind fun ds M => mkLn mu ds M
  | .tuple es, r, M => (evEs es r M).bind fun ds M => okIf (decide (ds.length ≤ line)) (.ok (frzT ds) M)
  | .idx a i, r, M => (evE a r M).bind fun x M => (evE i r M).bind fun y M => idxV x y M
  | .slc mu a lo hi, r, M => (evE a r M).bind fun x M => (evO lo r M).bind fun l M => (evO hi r M).bind fun h M => slcV mu x l h M
  | .bi f es, r, M => (evEs es r M).bind fun ds M => biV f ds M
  | .me m o es, r, M => (evE o r M).bind fun x M => okIf (isLst M x) ((evEs es r M).bind fun ds M => meV m x ds M)
  | .call m f es, r, M => (evEs es r M).bind fun ds M => callV G m f ds M
  | .meth c m f o es, r, M => (evE o r M).bind fun x M => okIf (methB M c m x) ((evEs es r M).bind fun ds M => G f (x :: ds) M)
  | .make c f es, r, M => (evEs es r M).bind fun ds M => (G f (.ref M.length :: ds) (M ++ [.obj c []])).bind fun d M1 => match d with
    | .t .non => .ok (.ref M.length) M1
    | _ => .stuck
  | .makeF c f es, r, M => (evEs es r M).bind fun ds M => makeFV G c f ds M
  | .attr c o f, r, M => (evE o r M).bind fun x M => attrV c x f M
  | .pick ks es i, r, M => (evEs es r M).bind fun ds M => (evE i r M).bind fun y M => pickV ks ds y M
  | .tabIn yes l a, r, M => (evE a r M).bind fun x M => tabInV yes l x M
  | .tabGet l a, r, M => (evE a r M).bind fun x M => tabGetV l x M
  | .dict mu, _, M => mkD mu [] M
  | .get1 d a, r, M => (evE d r M).bind fun x M => (match dkOf M x with
    | none => .stuck
    | some _ => (evE a r M).bind fun y M => (match dkOf M x with
      | some l => getV l y (.t .non) M
      | none => .stuck))
  | .get2 d a b, r, M => (evE d r M).bind fun x M => (match dkOf M x with
    | none => .stuck
    | some _ => (evE a r M).bind fun y M => (evE b r M).bind fun z M => (match dkOf M x with
      | some l => getV l y z M
      | none => .stuck))
  | .pickG ks es i b, r, M => (evEs es r M).bind fun ds M => (evE i r M).bind fun y M => (evE b r M).bind fun z M => pickGV ks ds y z M
  | .split a b, r, M => (evE a r M).bind fun x M => (match stOf x with
    | none => .stuck
    | some _ => (evE b r M).bind fun y M => splitV x y M)
  | .join a b, r, M => (evE a r M).bind fun x M => (match stOf x with
    | none => .stuck
    | some _ => (evE b r M).bind fun y M => joinV x y M)
  | .comp mu tg s c e, r, M => (evSr s r M).bind fun I M => (cmpItm (fun d M => noExc (match asg tg d M (wipeE r tg.slots) with
      | none => .stuck
      | some r' => (evC c r' M).bind fun k M => match k with
        | true => (evE e r' M).bind fun x M => .ok (some x) M
        | false => .ok none M)) I M).bind fun l M => mkL mu l M
  | .lenSet a, r, M => (evE a r M).bind fun x M => lenSetV x M
  | .setSort a, r, M => (evE a r M).bind fun x M => setSortV x M
  | .listZip es, r, M => (evEs es r M).bind fun ds M => listZipV ds M
  | .listRng a b, r, M => (evE a r M).bind fun x M => (evE b r M).bind fun y M => listRngV x y M
  | .repT a b, r, M => (evE a r M).bind fun x M => (evE b r M).bind fun y M => repTV x y M
  | .cntS a b, r, M => (evE a r M).bind fun x M => (match stOf x with
    | none => .stuck
    | some _ => (evE b r M).bind fun y M => cntSV x y M)
  | .cntL a b, r, M => (evE a r M).bind fun x M => okIf (isLst M x) ((evE b r M).bind fun y M => cntLV x y M)
  | .ixL a b, r, M => (evE a r M).bind fun x M => okIf (isLst M x) ((evE b r M).bind fun y M => ixLV x y M)
  | .srtI a, r, M => (evE a r M).bind fun x M => srtIV x M
  | .compK mu tg i c e, r, M => noExc ((keysAt r i).elim .stuck fun l => (cmpF (fun d M => noExc (match asg tg d M (wipeE r tg.slots) with
      | none => .stuck
      | some r' => (evC c r' M).bind fun k M => match k with
        | true => (evE e r' M).bind fun x M => .ok (some x) M
        | false => .ok none M)) l [] M).bind fun l M => mkL mu l M)
def evEs : List Ex → En → Ar → Res (List D)
  | [], _, M => .ok [] M
  | e :: es, r, M => (evE e r M).bind fun d M => (evEs es r M).bind fun ds M => .ok (d :: ds) M
def evAnd : List Ex → En → Ar → Res D
  | [], _, _ => .stuck
  | [a], r, M => evE a r M
  | a :: b :: es, r, M => (evE a r M).bind fun x M => (truV x M).bind fun k M => match k with
    | true => evAnd (b :: es) r M
    | false => .ok (.t (.bl false)) M
def evOr : List Ex → En → Ar → Res D
  | [], _, _ => .stuck
  | [a], r, M => evE a r M
  | a :: b :: es, r, M => (evE a r M).bind fun x M => (truV x M).bind fun k M => match k with
    | true => .ok (.t (.bl true)) M
    | false => evOr (b :: es) r M
def evO : Option Ex → En → Ar → Res (Option Int)
  | none, _, M => .ok none M
  | some e, r, M => (evE e r M).bind fun x M => match x with
    | .t (.int i) => .ok (some i) M
    | _ => .stuck
def evC : Option Ex → En → Ar → Res Bool
  | none, _, M => .ok true M
  | some e, r, M => (evE e r M).bind truV
def evSr : Sr → En → Ar → Res Itm
  | .seq e, r, M => (evE e r M).bind srSeq
  | .rng es, r, M => (evEs es r M).bind srRng
  | .enu e, r, M => (evE e r M).bind srEnu
  | .tab l, _, M => .ok (.fix (l.map fun p => .t (.str p.1))) M
  | .zip a b, r, M => (evE a r M).bind fun x M => (evE b r M).bind fun y M => srZip x y M
  | .rng3 a b c, r, M => (evE a r M).bind fun x M => (evE b r M).bind fun y M => (evE c r M).bind fun z M => srRng3 x y z M
end
def evT (e : Ex) (r : En) (M : Ar) : Res Bool := (evE G e r M).bind truV
mutual
def evS : Sm → En → Ar → Res Fl
  | .asg tg e, r, M => (evE G e r M).bind fun d M => match asg tg d M r with
    | some r' => .ok (.nx r') M
    | none => .stuck
  | .fld c o f e, r, M => (evE G e r M).bind fun d M => (evE G o r M).bind fun x M => (fldV c x f d M).bind fun _ M => .ok (.nx r) M
  | .sub o i e, r, M => (evE G e r M).bind fun d M => (evE G o r M).bind fun x M => (evE G i r M).bind fun y M => (subV x y d M).bind fun _ M => .ok (.nx r) M
  | .expr e, r, M => (evE G e r M).bind fun _ M => .ok (.nx r) M
  | .ret none, _, M => .ok (.rt (.t .non)) M
  | .ret (some e), r, M => (evE G e r M).bind fun d M => .ok (.rt d) M
  | .ite c a b, r, M => (evT G c r M).bind fun k M => match k with
    | true => evB a r M
    | false => evB b r M
  | .for tg s b, r, M => (evSr G s r M).bind fun I M => forI (fun d r M => match asg tg d M r with
      | none => .stuck
      | some r' => evB b r' M) I r M
  | .whl c b, r, M => whl (fun r M => evT G c r M) (fun r M => evB b r M) wfuel r M
  | .raise _ _ _, _, _ => .stuck
  | .bad, _, _ => .stuck
  | .forK tg i b, r, M => noExc ((keysAt r i).elim .stuck fun l => forF (fun d r M => match asg tg d M r with
      | none => .stuck
      | some r' => evB b r' M) l r M)
def evB : List Sm → En → Ar → Res Fl
  | [], r, M => .ok (.nx r) M
  | s :: ss, r, M => (evS s r M).bind fun f M => match f with
    | .nx r' => evB ss r' M
    | .rt d => .ok (.rt d) M
end
end
/-- a def: its names by slot (parameters first), how many parameters, its body -/
structure Fn where
  names : List Str
  np : Nat
  body : List Sm
def fnV (G : Cal) (fn : Fn) (ds : List D) (M : Ar) : Res D := match decide (ds.length = fn.np) with
  | false => .stuck
  | true => (evB G fn.body (ds.map some ++ List.replicate (fn.names.length - ds.length) none) M).bind fun f M => match f with
    | .nx _ => .ok (.t .non) M
    | .rt d => .ok d M
def run (F : Nat → Option Fn) : Nat → Cal
  | 0, _, _, _ => .stuck
  | k + 1, f, ds, M => (match F f with
    | none => .stuck
    | some fn => fnV (run F k) fn ds M)
end Rw
end
section
set_option Elab.async false
set_option linter.all false
set_option maxRecDepth 100000
namespace Rw
open PySem PySem.Spec PyProof.Rows L2
def Sub (F F' : Hp) : Prop := ∀ a o, F a = some o → F' a = some o
theorem Sub.refl (F : Hp) : Sub F F := fun _ _ h => h
theorem Sub.trans {F G H : Hp} (h : Sub F G) (k : Sub G H) : Sub F H := fun a o e => k a o (h a o e)
def Pre (p q : List Addr) : Prop := ∀ (i : Nat) (a : Addr), p[i]? = some a → q[i]? = some a
theorem Pre.refl (p : List Addr) : Pre p p := fun _ _ h => h
theorem Pre.trans {p q r : List Addr} (h : Pre p q) (k : Pre q r) : Pre p r := fun i a e => k i a (h i a e)
theorem Pre.app (p : List Addr) (x : Addr) : Pre p (p ++ [x]) := fun i a e => by
  rw [List.getElem?_append_left]
  · exact e
  · exact (List.getElem?_eq_some_iff.mp e).1
theorem sqT_sub {K : PySem.W.Frag} {F F' : Hp} {a : Addr} {xs : List V} (s : Sub F F') (h : SqT K F a xs) : SqT K F' a xs := by
  rcases h with (h | ⟨o, h⟩) | h
  · exact .inl (.inl (s _ _ h))
  · exact .inl (.inr ⟨o, s _ _ h⟩)
  · exact .inr h
theorem sqL_sub {K : PySem.W.Frag} {F F' : Hp} {a : Addr} {xs : List V} (s : Sub F F') (h : SqL K F a xs) : SqL K F' a xs := by
  rcases h with (h | ⟨o, h⟩) | h
  · exact .inl (.inl (s _ _ h))
  · exact .inl (.inr ⟨o, s _ _ h⟩)
  · exact .inr h
theorem rd_sub {F F' : Hp} {a : Addr} {u : HO} (s : Sub F F') (h : Rd F a u) : Rd F' a u := by
  rcases h with h | ⟨o, h⟩
  · exact .inl (s _ _ h)
  · exact .inr ⟨o, s _ _ h⟩
section
variable (K : PySem.W.Frag) (ca : Nat → Addr)
mutual
def RT (F : Hp) : T → V → Prop
  | .non, v => v = .non
  | .bl b, v => v = .bl b
  | .int i, v => v = .int i
  | .str x, v => v = .str x
  | .tup l, v => ∃ a vs, v = .ref a ∧ SqT K F a vs ∧ RTs F l vs
  | .lst l, v => ∃ a vs, v = .ref a ∧ F a = some (.lst vs) ∧ RTs F l vs
  | .scr l, v => ∃ a, v = .ref a ∧ SqL K F a (l.map V.int)
  | .dct ks l, v => ∃ a us, v = .ref a ∧ Rd F a (.dK (ks.zip us)) ∧ ks.length = us.length ∧ RTs F l us
  | .obj c fs l, v => ∃ a dx us, v = .ref a ∧ F a = some (.ins (ca c) dx (fs.zip us)) ∧ fs.length = us.length ∧ RTs F l us
def RTs (F : Hp) : List T → List V → Prop
  | [], vs => vs = []
  | t :: r, vs => ∃ v w, vs = v :: w ∧ RT F t v ∧ RTs F r w
end
mutual
def RD (p : List Addr) (F : Hp) : D → V → Prop
  | .t x, v => RT K ca F x v
  | .ref i, v => ∃ a, p[i]? = some a ∧ v = .ref a
  | .tup l, v => ∃ a vs, v = .ref a ∧ SqT K F a vs ∧ RDs p F l vs
  | .lst l, v => ∃ a vs, v = .ref a ∧ F a = some (.lst vs) ∧ RDs p F l vs
def RDs (p : List Addr) (F : Hp) : List D → List V → Prop
  | [], vs => vs = []
  | t :: r, vs => ∃ v w, vs = v :: w ∧ RD p F t v ∧ RDs p F r w
end
end
section
variable {K : PySem.W.Frag} {ca : Nat → Addr} {p q : List Addr} {F F' : Hp}
mutual
theorem RT.sub (s : Sub F F') : ∀ (t : T) (v : V), RT K ca F t v → RT K ca F' t v
  | .non, _, h => h
  | .bl _, _, h => h
  | .int _, _, h => h
  | .str _, _, h => h
  | .tup l, v, h => by
    obtain ⟨a, vs, e, h1, h2⟩ := h
    exact ⟨a, vs, e, sqT_sub s h1, RTs.sub s l vs h2⟩
  | .lst l, v, h => by
    obtain ⟨a, vs, e, h1, h2⟩ := h
    exact ⟨a, vs, e, s _ _ h1, RTs.sub s l vs h2⟩
  | .scr l, v, h => by
    obtain ⟨a, e, h1⟩ := h
    exact ⟨a, e, sqL_sub s h1⟩
  | .dct ks l, v, h => by
    obtain ⟨a, us, e, h1, h2, h3⟩ := h
    exact ⟨a, us, e, rd_sub s h1, h2, RTs.sub s l us h3⟩
  | .obj c fs l, v, h => by
    obtain ⟨a, dx, us, e, h1, h2, h3⟩ := h
    exact ⟨a, dx, us, e, s _ _ h1, h2, RTs.sub s l us h3⟩
theorem RTs.sub (s : Sub F F') : ∀ (l : List T) (vs : List V), RTs K ca F l vs → RTs K ca F' l vs
  | [], _, h => h
  | t :: r, vs, h => by
    obtain ⟨v, w, e, h1, h2⟩ := h
    exact ⟨v, w, e, RT.sub s t v h1, RTs.sub s r w h2⟩
end
mutual
theorem RD.sub (r : Pre p q) (s : Sub F F') : ∀ (d : D) (v : V), RD K ca p F d v → RD K ca q F' d v
  | .t x, v, h => RT.sub s x v h
  | .ref i, v, h => by
    obtain ⟨a, h1, h2⟩ := h
    exact ⟨a, r i a h1, h2⟩
  | .tup l, v, h => by
    obtain ⟨a, vs, e, h1, h2⟩ := h
    exact ⟨a, vs, e, sqT_sub s h1, RDs.sub r s l vs h2⟩
  | .lst l, v, h => by
    obtain ⟨a, vs, e, h1, h2⟩ := h
    exact ⟨a, vs, e, s _ _ h1, RDs.sub r s l vs h2⟩
theorem RDs.sub (r : Pre p q) (s : Sub F F') : ∀ (l : List D) (vs : List V), RDs K ca p F l vs → RDs K ca q F' l vs
  | [], _, h => h
  | d :: l, vs, h => by
    obtain ⟨v, w, e, h1, h2⟩ := h
    exact ⟨v, w, e, RD.sub r s d v h1, RDs.sub r s l w h2⟩
end
theorem RDs.length : ∀ {l : List D} {vs : List V}, RDs K ca p F l vs → l.length = vs.length
  | [], _, h => by cases h; rfl
  | d :: l, _, ⟨v, w, e, _, h⟩ => by subst e; rw [List.length_cons, List.length_cons, RDs.length h]
theorem RTs.length : ∀ {l : List T} {vs : List V}, RTs K ca F l vs → l.length = vs.length
  | [], _, h => by cases h; rfl
  | d :: l, _, ⟨v, w, e, _, h⟩ => by subst e; rw [List.length_cons, List.length_cons, RTs.length h]
theorem RTs.toD : ∀ {l : List T} {vs : List V}, RTs K ca F l vs → RDs K ca p F (l.map .t) vs
  | [], _, h => h
  | t :: l, _, ⟨v, w, e, h1, h⟩ => ⟨v, w, e, h1, RTs.toD h⟩
theorem RDs.get : ∀ {l : List D} {vs : List V} {i : Nat} {d : D}, RDs K ca p F l vs → l[i]? = some d → ∃ v, vs[i]? = some v ∧ RD K ca p F d v
  | [], _, _, _, _, h => by simp at h
  | x :: l, _, 0, d, ⟨v, w, e, h1, _⟩, h => by
    have : x = d := by simpa using h
    subst this; subst e
    exact ⟨v, rfl, h1⟩
  | x :: l, _, i + 1, d, ⟨v, w, e, _, h2⟩, h => by
    subst e
    obtain ⟨u, e1, e2⟩ := RDs.get (i := i) (d := d) h2 (by simpa using h)
    exact ⟨u, by simpa using e1, e2⟩
theorem RDs.app : ∀ {l m : List D} {vs ws : List V}, RDs K ca p F l vs → RDs K ca p F m ws → RDs K ca p F (l ++ m) (vs ++ ws)
  | [], _, _, _, h, k => by cases h; exact k
  | d :: l, m, _, ws, ⟨v, w, e, h1, h2⟩, k => by subst e; exact ⟨v, w ++ ws, rfl, h1, RDs.app h2 k⟩
theorem RDs.one {d : D} {v : V} (h : RD K ca p F d v) : RDs K ca p F [d] [v] := ⟨v, [], rfl, h, rfl⟩
theorem RDs.set : ∀ {l : List D} {vs : List V} {d : D} {v : V} (i : Nat), RDs K ca p F l vs → RD K ca p F d v → RDs K ca p F (l.set i d) (vs.set i v)
  | [], _, _, _, _, h, _ => by cases h; exact rfl
  | x :: l, _, d, v, 0, ⟨u, w, e, _, h2⟩, k => by subst e; exact ⟨v, w, rfl, k, h2⟩
  | x :: l, _, d, v, i + 1, ⟨u, w, e, h1, h2⟩, k => by subst e; exact ⟨u, w.set i v, rfl, h1, RDs.set i h2 k⟩
theorem RDs.take : ∀ {l : List D} {vs : List V} (n : Nat), RDs K ca p F l vs → RDs K ca p F (l.take n) (vs.take n)
  | _, _, 0, _ => rfl
  | [], _, _ + 1, h => by cases h; exact rfl
  | x :: l, _, n + 1, ⟨u, w, e, h1, h2⟩ => by subst e; exact ⟨u, w.take n, rfl, h1, RDs.take n h2⟩
theorem RDs.drop : ∀ {l : List D} {vs : List V} (n : Nat), RDs K ca p F l vs → RDs K ca p F (l.drop n) (vs.drop n)
  | _, _, 0, h => h
  | [], _, _ + 1, h => by cases h; exact rfl
  | x :: l, _, n + 1, ⟨u, w, e, h1, h2⟩ => by subst e; exact RDs.drop n h2
theorem RDs.cut {l : List D} {vs : List V} {lo hi : Option Int} (h : RDs K ca p F l vs) : RDs K ca p F (cut l lo hi) (cutV vs lo hi) := by
  unfold Rw.cut cutV
  rw [h.length]
  exact (h.drop _).take _
theorem RDs.at_ {l : List D} {vs : List V} {i : Int} {d : D} (h : RDs K ca p F l vs) (e : atI l i = some d) : ∃ v, atI vs i = some v ∧ RD K ca p F d v := by
  unfold atI at e ⊢
  rw [h.length] at e
  cases q : ixN vs.length i with
  | none => rw [q] at e; simp at e
  | some j =>
    rw [q] at e
    obtain ⟨v, e1, e2⟩ := h.get (i := j) (d := d) (by simpa using e)
    exact ⟨v, by simpa using e1, e2⟩
theorem RDs.dropLast {l : List D} {vs : List V} (h : RDs K ca p F l vs) : RDs K ca p F l.dropLast vs.dropLast := by
  rw [List.dropLast_eq_take, List.dropLast_eq_take, h.length]
  exact h.take _
/-- closed items -/
theorem RDs.allT : ∀ {l : List D} {vs : List V} {ts : List T}, RDs K ca p F l vs → allT l = some ts → RTs K ca F ts vs
  | [], _, ts, h, e => by
    have e1 : ts = [] := by
      have : (some [] : Option (List T)) = some ts := e
      exact (Option.some.inj this).symm
    subst e1; exact h
  | .t x :: l, _, ts, ⟨v, w, e0, h1, h2⟩, e => by
    have e1 : (match Rw.allT l with | some l => some (x :: l) | none => none) = some ts := e
    cases q : Rw.allT l with
    | none => rw [q] at e1; cases e1
    | some m =>
      rw [q] at e1
      have e2 : x :: m = ts := Option.some.inj e1
      subst e2
      exact ⟨v, w, e0, h1, RDs.allT h2 q⟩
  | .ref _ :: _, _, _, _, e => by cases e
  | .tup _ :: _, _, _, _, e => by cases e
  | .lst _ :: _, _, _, _, e => by cases e
theorem RDs.frzL {l : List D} {vs : List V} {a : Addr} (h : RDs K ca p F l vs) (e : F a = some (.lst vs)) : RD K ca p F (frzL l) (.ref a) := by
  unfold Rw.frzL
  cases q : Rw.allT l with
  | none => exact ⟨a, vs, rfl, e, h⟩
  | some ts => exact ⟨a, vs, rfl, e, h.allT q⟩
theorem RDs.frzT {l : List D} {vs : List V} {a : Addr} (h : RDs K ca p F l vs) (e : SqT K F a vs) : RD K ca p F (frzT l) (.ref a) := by
  unfold Rw.frzT
  cases q : Rw.allT l with
  | none => exact ⟨a, vs, rfl, e, h⟩
  | some ts => exact ⟨a, vs, rfl, e, h.allT q⟩
end
section
variable (K : PySem.W.Frag) (ca : Nat → Addr)
def RO (p : List Addr) (F H : Hp) : MO → Addr → Prop
  | .lst l, a => ∃ vs, H a = some (.lst vs) ∧ RDs K ca p F l vs
  | .dK l, a => ∃ kvs, H a = some (.dK kvs) ∧ Paired (fun (x : Key × D) (y : Key × V) => x.1 = y.1 ∧ RD K ca p F x.2 y.2) l kvs
  | .dT l, a => ∃ kvs, H a = some (.dT kvs) ∧ Paired (fun (x : List Key × D) (y : List Key × V) => x.1 = y.1 ∧ RD K ca p F x.2 y.2) l kvs
  | .obj c l, a => ∃ dx fs, H a = some (.ins (ca c) dx fs) ∧ Paired (fun (x : Str × D) (y : Str × V) => x.1 = y.1 ∧ RD K ca p F x.2 y.2) l fs
  | .gone, a => ∃ o, H a = some o
structure SR (p : List Addr) (F G : Hp) (M : Ar) (H : Hp) : Prop where
  len : p.length = M.length
  nd : p.Nodup
  fr : Sub F H
  gr : Sub G H
  fg : ∀ a, F a = none ∨ G a = none
  pf : ∀ a ∈ p, F a = none
  pg : ∀ a ∈ p, G a = none
  ob : ∀ (i : Nat) a o, p[i]? = some a → M[i]? = some o → RO K ca p F H o a
end
section
variable {K : PySem.W.Frag} {ca : Nat → Addr} {p q : List Addr} {F F' G H H' : Hp} {M : Ar}
theorem RO.sub (r : Pre p q) (s : Sub F F') {o : MO} {a : Addr} (e : H' a = H a) (h : RO K ca p F H o a) : RO K ca q F' H' o a := by
  cases o with
  | lst l => obtain ⟨vs, h1, h2⟩ := h; exact ⟨vs, e.trans h1, RDs.sub r s l vs h2⟩
  | dK l => obtain ⟨vs, h1, h2⟩ := h; exact ⟨vs, e.trans h1, Paired.mapP h2 fun x y z => ⟨z.1, RD.sub r s _ _ z.2⟩⟩
  | dT l => obtain ⟨vs, h1, h2⟩ := h; exact ⟨vs, e.trans h1, Paired.mapP h2 fun x y z => ⟨z.1, RD.sub r s _ _ z.2⟩⟩
  | obj c l => obtain ⟨dx, vs, h1, h2⟩ := h; exact ⟨dx, vs, e.trans h1, Paired.mapP h2 fun x y z => ⟨z.1, RD.sub r s _ _ z.2⟩⟩
  | gone => obtain ⟨o, h1⟩ := h; exact ⟨o, e.trans h1⟩
theorem RO.there {o : MO} {a : Addr} (h : RO K ca p F H o a) : ∃ u, H a = some u := by
  cases o with
  | lst l => obtain ⟨vs, h1, _⟩ := h; exact ⟨_, h1⟩
  | dK l => obtain ⟨vs, h1, _⟩ := h; exact ⟨_, h1⟩
  | dT l => obtain ⟨vs, h1, _⟩ := h; exact ⟨_, h1⟩
  | obj c l => obtain ⟨dx, vs, h1, _⟩ := h; exact ⟨_, h1⟩
  | gone => exact h
theorem SR.at_ (s : SR K ca p F G M H) {i : Nat} {o : MO} (h : M[i]? = some o) : ∃ a, p[i]? = some a ∧ a ∈ p ∧ RO K ca p F H o a := by
  have hi : i < p.length := by rw [s.len]; exact (List.getElem?_eq_some_iff.mp h).1
  have e : p[i]? = some p[i] := List.getElem?_eq_getElem hi
  exact ⟨p[i], e, List.getElem_mem hi, s.ob i _ o e h⟩
/-- a tracked address of ours is not new -/
theorem SR.ne (s : SR K ca p F G M H) {a : Addr} (n : H a = none) : a ∉ p ∧ F a = none ∧ G a = none := by
  refine ⟨fun h => ?_, ?_, ?_⟩
  · obtain ⟨i, hi, e⟩ := List.mem_iff_getElem.mp h
    have hM : i < M.length := by rw [← s.len]; exact hi
    obtain ⟨u, hu⟩ := (s.ob i a _ (by rw [List.getElem?_eq_getElem hi, e]) (List.getElem?_eq_getElem hM)).there
    rw [n] at hu; cases hu
  · cases e : F a with
    | none => rfl
    | some u => have := s.fr a u e; rw [n] at this; cases this
  · cases e : G a with
    | none => rfl
    | some u => have := s.gr a u e; rw [n] at this; cases this
/-- the heap has grown elsewhere -/
theorem SR.grow (s : SR K ca p F G M H) (h : ∀ a o, H a = some o → H' a = some o) : SR K ca p F G M H' :=
  ⟨s.len, s.nd, fun a o e => h a o (s.fr a o e), fun a o e => h a o (s.gr a o e), s.fg, s.pf, s.pg, fun i a o e1 e2 => by
    have r := s.ob i a o e1 e2
    obtain ⟨u, hu⟩ := r.there
    exact r.sub (Pre.refl _) (Sub.refl _) (by rw [hu]; exact h a u hu)⟩
theorem upd_grow {H : Hp} {a : Addr} {o : HO} (n : H a = none) : ∀ b u, H b = some u → upd H a o b = some u := fun b u e => by
  rw [upd_ne (ne_of_none e n)]; exact e
/-- a new frozen thing -/
theorem SR.newF (s : SR K ca p F G M H) {a : Addr} {o : HO} (n : H a = none) : Sub F (upd F a o) ∧ SR K ca p (upd F a o) G M (upd H a o) := by
  obtain ⟨n1, n2, n3⟩ := s.ne n
  have sb : Sub F (upd F a o) := fun b u e => by rw [upd_ne (ne_of_none e n2)]; exact e
  refine ⟨sb, s.len, s.nd, fun b u e => ?_, fun b u e => ?_, fun b => ?_, fun b hb => ?_, s.pg, fun i b u e1 e2 => ?_⟩
  · by_cases h : b = a
    · subst h; rw [upd_same] at e ⊢; exact e
    · rw [upd_ne h] at e ⊢; exact s.fr b u e
  · rw [upd_ne (ne_of_none e n3)]; exact s.gr b u e
  · by_cases h : b = a
    · subst h; exact .inr n3
    · rw [upd_ne h]; exact s.fg b
  · have : b ≠ a := fun e => n1 (e ▸ hb)
    rw [upd_ne this]; exact s.pf b hb
  · have r := s.ob i b u e1 e2
    obtain ⟨w, hw⟩ := r.there
    exact r.sub (Pre.refl _) sb (by rw [hw, upd_ne (ne_of_none hw n)]; exact hw)
/-- a new object of the arena -/
theorem SR.newM (s : SR K ca p F G M H) {a : Addr} {o : HO} {m : MO} (n : H a = none) (ro : RO K ca (p ++ [a]) F (upd H a o) m a) :
    Pre p (p ++ [a]) ∧ (p ++ [a])[M.length]? = some a ∧ SR K ca (p ++ [a]) F G (M ++ [m]) (upd H a o) := by
  obtain ⟨n1, n2, n3⟩ := s.ne n
  refine ⟨Pre.app p a, ?_, ?_, ?_, fun b u e => upd_grow n b u (s.fr b u e), fun b u e => upd_grow n b u (s.gr b u e), s.fg, fun b hb => ?_, fun b hb => ?_, fun i b u e1 e2 => ?_⟩
  · rw [← s.len]; simp
  · simp [s.len]
  · exact List.nodup_append.mpr ⟨s.nd, by simp, fun x hx y hy => by
      have : y = a := by simpa using hy
      subst this
      exact fun e => n1 (e ▸ hx)⟩
  · rcases List.mem_append.mp hb with h | h
    · exact s.pf b h
    · have : b = a := by simpa using h
      subst this; exact n2
  · rcases List.mem_append.mp hb with h | h
    · exact s.pg b h
    · have : b = a := by simpa using h
      subst this; exact n3
  · by_cases hi : i < M.length
    · have e1' : p[i]? = some b := by
        rw [List.getElem?_append_left (by rw [s.len]; exact hi)] at e1; exact e1
      have e2' : M[i]? = some u := by
        rw [List.getElem?_append_left hi] at e2; exact e2
      have r := s.ob i b u e1' e2'
      obtain ⟨w, hw⟩ := r.there
      exact r.sub (Pre.app p a) (Sub.refl _) (by rw [hw, upd_ne (ne_of_none hw n)]; exact hw)
    · have hl : i < (M ++ [m]).length := (List.getElem?_eq_some_iff.mp e2).1
      have hi' : i = M.length := by simp at hl; omega
      subst hi'
      have e1' : b = a := by
        rw [List.getElem?_append_right (by rw [s.len]; exact Nat.le_refl _), ← s.len] at e1
        simpa using e1.symm
      have e2' : u = m := by
        rw [List.getElem?_append_right (by omega)] at e2
        simpa using e2.symm
      subst e1' e2'
      exact ro
/-- an object of the arena has changed -/
theorem SR.set (s : SR K ca p F G M H) {i : Nat} {a : Addr} {o : HO} {m : MO} (hi : p[i]? = some a) (ro : RO K ca p F (upd H a o) m a) :
    SR K ca p F G (M.set i m) (upd H a o) := by
  have ha : a ∈ p := List.mem_of_getElem? hi
  have nf := s.pf a ha
  have ng := s.pg a ha
  refine ⟨by rw [List.length_set]; exact s.len, s.nd, fun b u e => ?_, fun b u e => ?_, s.fg, s.pf, s.pg, fun j b u e1 e2 => ?_⟩
  · rw [upd_ne (ne_of_none e nf)]; exact s.fr b u e
  · rw [upd_ne (ne_of_none e ng)]; exact s.gr b u e
  · by_cases hj : j = i
    · subst hj
      rw [hi] at e1; cases e1
      have hl : j < M.length := by rw [← s.len]; exact (List.getElem?_eq_some_iff.mp hi).1
      rw [List.getElem?_set_self hl] at e2
      cases e2
      exact ro
    · rw [List.getElem?_set_ne (Ne.symm hj)] at e2
      have r := s.ob j b u e1 e2
      have hb : b ≠ a := fun e => hj (nodup_ix' s.nd e1 (e ▸ hi))
      exact r.sub (Pre.refl _) (Sub.refl _) (by rw [upd_ne hb])
where
  nodup_ix' {N : List Addr} (hN : N.Nodup) {i j : Nat} {x : Addr} (a : N[i]? = some x) (b : N[j]? = some x) : i = j := by
    obtain ⟨h1, e1⟩ := List.getElem?_eq_some_iff.mp a
    obtain ⟨h2, e2⟩ := List.getElem?_eq_some_iff.mp b
    exact (List.getElem_inj hN).mp (e1.trans e2.symm)
end
end Rw
end
section
set_option Elab.async false
set_option linter.all false
set_option maxRecDepth 100000
namespace Rw
open PySem PySem.Spec PyProof.Rows L2
section
variable (K : PySem.W.Frag) (ca : Nat → Addr)
def XR (F H : Hp) (c : Nat) (fs : List (Str × T)) (cls : Value) (d : Option Addr) : Prop :=
  cls = .ref (ca c) ∧ match fs with
    | [] => d = none
    | fs => ∃ a vs, d = some a ∧ H a = some (.xd vs) ∧ Paired (fun (x : Str × T) (y : Str × V) => x.1 = y.1 ∧ RT K ca F x.2 y.2) fs vs
/-- what is wanted of an outcome -/
def Tk {α β : Type} (rel : List Addr → Hp → α → β → Prop) (W : XK) (G : Hp) (p : List Addr) (F : Hp) (r : Res α) (Q : β → Hp → Prop) : Prop := match r with
  | .ok a M => ∀ p' F' H' v, Pre p p' → Sub F F' → SR K ca p' F' G M H' → rel p' F' a v → Q v H'
  | .exc c fs M => ∀ p' F' H' cls d, Pre p p' → Sub F F' → SR K ca p' F' G M H' → XR K ca F' H' c fs cls d → W cls d H'
  | .stuck => False
def ER (p : List Addr) (F : Hp) (r : En) (σ : L2.St) : Prop := r.length = σ.length ∧ ∀ (i : Nat) (d : D), r[i]? = some (some d) → ∃ v, σ[i]? = some (some v) ∧ RD K ca p F d v
def TEo (W : XK) (f : En → Ar → Res D) : TE := fun σ H Q => ∃ p F G r M, SR K ca p F G M H ∧ ER K ca p F r σ ∧ Tk K ca (RD K ca) W G p F (f r M) Q
def TAo (W : XK) (f : En → Ar → Res (List D)) : TA := fun σ H Q => ∃ p F G r M, SR K ca p F G M H ∧ ER K ca p F r σ ∧ Tk K ca (RDs K ca) W G p F (f r M) Q
def TTo (W : XK) (f : En → Ar → Res Bool) : TT := fun σ H Q => ∃ p F G r M, SR K ca p F G M H ∧ ER K ca p F r σ ∧ Tk K ca (fun _ _ (a b : Bool) => a = b) W G p F (f r M) Q
end
section
variable {K : PySem.W.Frag} {ca : Nat → Addr} {p p' : List Addr} {F F' G H H' : Hp} {M : Ar} {W : XK} {α β γ δ : Type} {rel : List Addr → Hp → α → β → Prop} {rel' : List Addr → Hp → γ → δ → Prop}
theorem ER.sub {r : En} {σ : L2.St} (h : ER K ca p F r σ) (a : Pre p p') (s : Sub F F') : ER K ca p' F' r σ :=
  ⟨h.1, fun i d e => let ⟨v, h1, h2⟩ := h.2 i d e; ⟨v, h1, RD.sub a s d v h2⟩⟩
theorem Tk.mono {r : Res α} {Q Q' : β → Hp → Prop} (h : Tk K ca rel W G p F r Q) (k : ∀ v H, Q v H → Q' v H) : Tk K ca rel W G p F r Q' := by
  cases r with
  | ok a M => exact fun p' F' H' v h1 h2 h3 h4 => k _ _ (h p' F' H' v h1 h2 h3 h4)
  | exc c fs M => exact h
  | stuck => exact h
theorem Tk.bind {r : Res α} {f : α → Ar → Res γ} {Q : δ → Hp → Prop} (h : Tk K ca rel' W G p F (r.bind f) Q) :
    Tk K ca rel W G p F r (fun v H' => ∃ p' F' a M', Pre p p' ∧ Sub F F' ∧ SR K ca p' F' G M' H' ∧ rel p' F' a v ∧ r = .ok a M' ∧ Tk K ca rel' W G p' F' (f a M') Q) := by
  cases r with
  | ok a M =>
    intro p' F' H' v h1 h2 h3 h4
    refine ⟨p', F', a, M, h1, h2, h3, h4, rfl, ?_⟩
    have h' : Tk K ca rel' W G p F (f a M) Q := h
    cases e : f a M with
    | ok b M2 => rw [e] at h'; exact fun p2 F2 H2 v2 k1 k2 k3 k4 => h' p2 F2 H2 v2 (h1.trans k1) (h2.trans k2) k3 k4
    | exc c fs M2 => rw [e] at h'; exact fun p2 F2 H2 v2 d2 k1 k2 k3 k4 => h' p2 F2 H2 v2 d2 (h1.trans k1) (h2.trans k2) k3 k4
    | stuck => rw [e] at h'; exact h'
  | exc c fs M => exact h
  | stuck => exact h
theorem Tk.ok {a : α} {v : β} {Q : β → Hp → Prop} (h : Tk K ca rel W G p F (.ok a M) Q) (s : SR K ca p F G M H) (r : rel p F a v) : Q v H :=
  h p F H v (Pre.refl _) (Sub.refl _) s r
theorem Tk.okIf {c : Bool} {r : Res α} {Q : β → Hp → Prop} (h : Tk K ca rel W G p F (okIf c r) Q) : c = true ∧ Tk K ca rel W G p F r Q := by
  cases c with
  | true => exact ⟨rfl, h⟩
  | false => exact False.elim h
theorem mkL_ok {mu : Bool} {l : List D} {vs : List V} {Q : VK} (s : SR K ca p F G M H) (r : RDs K ca p F l vs) (h : Tk K ca (RD K ca) W G p F (mkL mu l M) Q) {a : Addr} (n : H a = none) : Q (.ref a) (upd H a (.lst vs)) := by
  cases mu with
  | true =>
    obtain ⟨h1, h2, h3⟩ := s.newM (m := .lst l) (o := .lst vs) n ⟨vs, upd_same, RDs.sub (Pre.app p a) (Sub.refl _) l vs r⟩
    exact h _ _ _ _ h1 (Sub.refl _) h3 ⟨a, h2, rfl⟩
  | false =>
    obtain ⟨h1, h2⟩ := s.newF (o := .lst vs) n
    exact h _ _ _ _ (Pre.refl _) h1 h2 (RDs.frzL (RDs.sub (Pre.refl _) h1 l vs r) upd_same)
theorem mkT_ok {l : List D} {vs : List V} {Q : VK} (s : SR K ca p F G M H) (r : RDs K ca p F l vs) (h : Tk K ca (RD K ca) W G p F (.ok (frzT l) M) Q) {a : Addr} (n : H a = none) : Q (.ref a) (upd H a (.tup vs)) := by
  obtain ⟨h1, h2⟩ := s.newF (o := .tup vs) n
  exact h _ _ _ _ (Pre.refl _) h1 h2 (RDs.frzT (RDs.sub (Pre.refl _) h1 l vs r) (SqT.of upd_same))
theorem lsOf_ok {d : D} {v : V} {l : List D} (s : SR K ca p F G M H) (r : RD K ca p F d v) (e : lsOf M d = some l) : ∃ a vs, v = .ref a ∧ H a = some (.lst vs) ∧ RDs K ca p F l vs := by
  cases d with
  | t x =>
    cases x with
    | lst m =>
      have e1 : m.map D.t = l := Option.some.inj e
      subst e1
      obtain ⟨a, vs, e2, h1, h2⟩ := r
      exact ⟨a, vs, e2, s.fr _ _ h1, RTs.toD h2⟩
    | _ => cases e
  | ref i =>
    obtain ⟨a, h1, h2⟩ := r
    have e1 : (match M[i]? with | some (.lst l) => some l | _ => none) = some l := e
    cases q : M[i]? with
    | none => rw [q] at e1; cases e1
    | some o =>
      rw [q] at e1
      cases o with
      | lst m =>
        have e2 : m = l := Option.some.inj e1
        subst e2
        obtain ⟨vs, k1, k2⟩ := s.ob i a _ h1 q
        exact ⟨a, vs, h2, k1, k2⟩
      | _ => cases e1
  | tup m => cases e
  | lst m =>
    have e1 : m = l := Option.some.inj e
    subst e1
    obtain ⟨a, vs, e2, h1, h2⟩ := r
    exact ⟨a, vs, e2, s.fr _ _ h1, h2⟩
theorem tpOf_ok {d : D} {v : V} {l : List D} (s : SR K ca p F G M H) (r : RD K ca p F d v) (e : tpOf d = some l) : ∃ a vs, v = .ref a ∧ SqT K F a vs ∧ RDs K ca p F l vs := by
  cases d with
  | t x =>
    cases x with
    | tup m =>
      have e1 : m.map D.t = l := Option.some.inj e
      subst e1
      obtain ⟨a, vs, e2, h1, h2⟩ := r
      exact ⟨a, vs, e2, h1, RTs.toD h2⟩
    | _ => cases e
  | ref i => cases e
  | lst m => cases e
  | tup m =>
    have e1 : m = l := Option.some.inj e
    subst e1
    exact r
theorem ints_RDs : ∀ (l : List Int), RDs K ca p F (l.map fun i => D.t (.int i)) (l.map V.int)
  | [] => rfl
  | i :: l => ⟨.int i, l.map V.int, rfl, rfl, ints_RDs l⟩
theorem scOf_ok {d : D} {v : V} {l : List D} (r : RD K ca p F d v) (e : scOf d = some l) : ∃ a vs, v = .ref a ∧ SqL K F a vs ∧ RDs K ca p F l vs := by
  cases d with
  | t x =>
    cases x with
    | scr m =>
      have e1 : m.map (fun i => D.t (.int i)) = l := Option.some.inj e
      subst e1
      obtain ⟨a, e2, h1⟩ := r
      exact ⟨a, _, e2, h1, ints_RDs m⟩
    | _ => cases e
  | _ => cases e
theorem sqOf_ok {d : D} {v : V} {l : List D} (s : SR K ca p F G M H) (r : RD K ca p F d v) (e : sqOf M d = some l) : ∃ a vs, v = .ref a ∧ (SqL K H a vs ∨ SqT K H a vs) ∧ RDs K ca p F l vs := by
  unfold sqOf at e
  cases q : lsOf M d with
  | some m =>
    rw [q] at e
    have e1 : m = l := Option.some.inj e
    subst e1
    obtain ⟨a, vs, h1, h2, h3⟩ := lsOf_ok s r q
    exact ⟨a, vs, h1, .inl (SqL.of h2), h3⟩
  | none =>
    rw [q] at e
    cases q2 : tpOf d with
    | some m =>
      rw [q2] at e
      have e1 : m = l := Option.some.inj e
      subst e1
      obtain ⟨a, vs, h1, h2, h3⟩ := tpOf_ok s r q2
      exact ⟨a, vs, h1, .inr (sqT_sub s.fr h2), h3⟩
    | none =>
      rw [q2] at e
      obtain ⟨a, vs, h1, h2, h3⟩ := scOf_ok r e
      exact ⟨a, vs, h1, .inl (sqL_sub s.fr h2), h3⟩
abbrev PrD {κ : Type} (K : PySem.W.Frag) (ca : Nat → Addr) (p : List Addr) (F : Hp) (l : List (κ × D)) (m : List (κ × V)) : Prop := Paired (fun (x : κ × D) (y : κ × V) => x.1 = y.1 ∧ RD K ca p F x.2 y.2) l m
theorem zip_pr {κ : Type} : ∀ {ks : List κ} {l : List D} {us : List V}, RDs K ca p F l us → PrD K ca p F (ks.zip l) (ks.zip us)
  | [], _, _, _ => by simp; exact .nil
  | k :: ks, [], _, h => by cases h; exact .nil
  | k :: ks, t :: l, _, ⟨v, w, e, h1, h2⟩ => by subst e; exact .cons ⟨rfl, h1⟩ (zip_pr h2)
theorem dkOf_ok {d : D} {v : V} {l : List (Key × D)} (s : SR K ca p F G M H) (r : RD K ca p F d v) (e : dkOf M d = some l) : ∃ a kvs, v = .ref a ∧ Rd H a (.dK kvs) ∧ PrD K ca p F l kvs := by
  cases d with
  | t x =>
    cases x with
    | dct ks vs =>
      have e1 : ks.zip (vs.map D.t) = l := Option.some.inj e
      subst e1
      obtain ⟨a, us, e2, h1, h2, h3⟩ := r
      exact ⟨a, _, e2, rd_sub s.fr h1, zip_pr (RTs.toD h3)⟩
    | _ => cases e
  | ref i =>
    obtain ⟨a, h1, h2⟩ := r
    have e1 : (match M[i]? with | some (.dK l) => some l | _ => none) = some l := e
    cases q : M[i]? with
    | none => rw [q] at e1; cases e1
    | some o =>
      rw [q] at e1
      cases o with
      | dK m =>
        have e2 : m = l := Option.some.inj e1
        subst e2
        obtain ⟨vs, k1, k2⟩ := s.ob i a _ h1 q
        exact ⟨a, vs, h2, .inl k1, k2⟩
      | _ => cases e1
  | _ => cases e
theorem stOf_ok {d : D} {v : V} {x : Str} (r : RD K ca p F d v) (e : stOf d = some x) : v = .str x := by
  cases d with
  | t y =>
    cases y with
    | str z => have e1 : z = x := Option.some.inj e; subst e1; exact r
    | _ => cases e
  | _ => cases e
theorem keyD_ok {d : D} {v : V} {k : Key} (r : RD K ca p F d v) (e : keyD d = some k) : v = kV k := by
  cases d with
  | t y =>
    cases y with
    | str z => have e1 : Sum.inr z = k := Option.some.inj e; subst e1; exact r
    | int z => have e1 : Sum.inl z = k := Option.some.inj e; subst e1; exact r
    | _ => cases e
  | _ => cases e
theorem val_ok {κ : Type} [DecidableEq κ] {k : κ} : ∀ {l : List (κ × D)} {m : List (κ × V)}, PrD K ca p F l m → (∀ d, valD l k = some d → ∃ v, valV m k = some v ∧ RD K ca p F d v) ∧ (valD l k = none → valV m k = none)
  | _, _, .nil => ⟨fun d h => (by cases h), fun _ => rfl⟩
  | _, _, .cons (a := x) (b := y) (l₁ := r) (l₂ := w) h t => by
    obtain ⟨x1, x2⟩ := x
    obtain ⟨y1, y2⟩ := y
    have e1 : x1 = y1 := h.1
    subst e1
    by_cases q : x1 = k
    · rw [valV_pos (p := (x1, y2)) q]
      have e2 : valD ((x1, x2) :: r) k = some x2 := by simp [valD, List.find?_cons, q]
      rw [e2]
      exact ⟨fun d e => ⟨y2, rfl, by have := Option.some.inj e; subst this; exact h.2⟩, fun e => by cases e⟩
    · rw [valV_neg (p := (x1, y2)) q]
      have e2 : valD ((x1, x2) :: r) k = valD r k := by simp [valD, List.find?_cons, q]
      rw [e2]
      exact val_ok t
theorem any_pr {κ : Type} [DecidableEq κ] {k : κ} : ∀ {l : List (κ × D)} {m : List (κ × V)}, PrD K ca p F l m → (l.any fun q => decide (q.1 = k)) = (m.any fun q => decide (q.1 = k))
  | _, _, .nil => rfl
  | _, _, .cons h t => by rw [List.any_cons, List.any_cons, h.1, any_pr t]
theorem put_ok {κ : Type} [DecidableEq κ] {k : κ} {d : D} {v : V} {l : List (κ × D)} {m : List (κ × V)} (r : RD K ca p F d v) (h : PrD K ca p F l m) : PrD K ca p F (putKD l k d) (putK m k v) := by
  unfold putKD putK
  rw [any_pr h]
  split
  · rename_i z
    clear z
    induction h with
    | nil => exact .nil
    | @cons x y l m h t ih =>
      rw [List.map_cons, List.map_cons]
      refine .cons ?_ ih
      rw [h.1]
      split
      · exact ⟨rfl, r⟩
      · exact ⟨h.1, h.2⟩
  · rename_i z
    clear z
    induction h with
    | nil => exact .cons ⟨rfl, r⟩ .nil
    | cons h t ih => exact .cons h ih
theorem merge_ok : ∀ {m : List (Key × D)} {n : List (Key × V)} {l : List (Key × D)} {k : List (Key × V)}, PrD K ca p F m n → PrD K ca p F l k → PrD K ca p F (mergeKD l m) (mergeK k n)
  | _, _, _, _, .nil, h => h
  | _, _, _, _, .cons (a := x) (b := y) h1 t, h => by
    unfold mergeKD mergeK
    rw [List.foldl_cons, List.foldl_cons, ← h1.1]
    exact merge_ok t (put_ok h1.2 h)
theorem pr_len {κ : Type} : ∀ {l : List (κ × D)} {m : List (κ × V)}, PrD K ca p F l m → l.length = m.length
  | _, _, .nil => rfl
  | _, _, .cons _ t => by rw [List.length_cons, List.length_cons, pr_len t]
theorem pr_split {κ : Type} : ∀ {l : List (κ × D)} {m : List (κ × V)}, PrD K ca p F l m → m = (l.map (·.1)).zip (m.map (·.2)) ∧ RDs K ca p F (l.map (·.2)) (m.map (·.2))
  | _, _, .nil => ⟨rfl, rfl⟩
  | _, _, .cons (a := x) (b := y) h t => by
    obtain ⟨e1, e2⟩ := pr_split t
    refine ⟨?_, ⟨_, _, rfl, h.2, e2⟩⟩
    rw [List.map_cons, List.map_cons, List.zip_cons_cons, ← e1, h.1]
theorem pr_sub {κ : Type} {p' : List Addr} {F' : Hp} (a : Pre p p') (s : Sub F F') {l : List (κ × D)} {m : List (κ × V)} (h : PrD K ca p F l m) : PrD K ca p' F' l m := Paired.mapP h fun _ _ z => ⟨z.1, RD.sub a s _ _ z.2⟩
theorem mkD_ok {mu : Bool} {l : List (Key × D)} {kvs : List (Key × V)} {Q : VK} (s : SR K ca p F G M H) (r : PrD K ca p F l kvs) (h : Tk K ca (RD K ca) W G p F (mkD mu l M) Q) {a : Addr} (n : H a = none) : Q (.ref a) (upd H a (.dK kvs)) := by
  cases mu with
  | true =>
    obtain ⟨h1, h2, h3⟩ := s.newM (m := .dK l) (o := .dK kvs) n ⟨kvs, upd_same, pr_sub (Pre.app p a) (Sub.refl _) r⟩
    exact h _ _ _ _ h1 (Sub.refl _) h3 ⟨a, h2, rfl⟩
  | false =>
    obtain ⟨h1, h2⟩ := s.newF (o := .dK kvs) n
    unfold mkD at h
    cases q : frzD l with
    | none => simp only [q] at h; exact h.elim
    | some d =>
      simp only [q] at h
      refine h _ _ _ _ (Pre.refl _) h1 h2 ?_
      unfold frzD at q
      cases q2 : allT (l.map (·.2)) with
      | none => simp only [q2] at q; cases q
      | some ts =>
        simp only [q2] at q
        cases q
        obtain ⟨e1, e2⟩ := pr_split r
        refine ⟨a, kvs.map (·.2), rfl, .inl ?_, ?_, RTs.sub h1 _ _ (e2.allT q2)⟩
        · rw [upd_same, ← e1]
        · rw [List.length_map, List.length_map, pr_len r]
end
end Rw
end
section
set_option Elab.async false
set_option linter.all false
set_option maxRecDepth 100000
namespace Rw
open PySem PySem.Spec PyProof.Rows L2
/-- what is tracked, and the arena's objects too -/
noncomputable def ext (F : Hp) (p : List Addr) (H : Hp) : Hp := fun a => match F a with
  | some o => some o
  | none => if a ∈ p then H a else none
section
variable {K : PySem.W.Frag} {ca : Nat → Addr} {p p' : List Addr} {F F' G H H' : Hp} {M : Ar}
theorem ext_sub : Sub F (ext F p H) := fun a o e => by unfold ext; rw [e]
theorem ext_in (s : Sub F H) : Sub (ext F p H) H := fun a o e => by
  unfold ext at e
  cases q : F a with
  | some u => rw [q] at e; cases e; exact s a _ q
  | none =>
    rw [q] at e
    by_cases h : a ∈ p
    · simpa [h] using e
    · simp [h] at e
theorem ext_at {a : Addr} (n : F a = none) (h : a ∈ p) : ext F p H a = H a := by unfold ext; rw [n]; simp [h]
theorem ext_none {a : Addr} (n : F a = none) (h : a ∉ p) : ext F p H a = none := by unfold ext; rw [n]; simp [h]
theorem ext_cases {a : Addr} {o : HO} (e : ext F p H a = some o) : F a = some o ∨ (F a = none ∧ a ∈ p ∧ H a = some o) := by
  cases q : F a with
  | some u => unfold ext at e; rw [q] at e; exact .inl e
  | none =>
    by_cases h : a ∈ p
    · rw [ext_at q h] at e; exact .inr ⟨rfl, h, e⟩
    · rw [ext_none q h] at e; cases e
theorem mapO_cons {α β : Type} {f : α → Option β} {a : α} {r : List α} {m : List β} (e : mapO f (a :: r) = some m) : ∃ b l, f a = some b ∧ mapO f r = some l ∧ m = b :: l := by
  unfold mapO at e
  split at e
  · rename_i b h1
    split at e
    · rename_i l h2
      exact ⟨b, l, h1, h2, (Option.some.inj e).symm⟩
    · cases e
  · cases e
theorem mapO_ok {n : Nat} (ih : ∀ (d : D) (t : T) (v : V), RD K ca p F d v → snap M n d = some t → RT K ca F' t v) :
    ∀ (l : List D) (ts : List T) (vs : List V), RDs K ca p F l vs → mapO (snap M n) l = some ts → RTs K ca F' ts vs
  | [], ts, vs, h, e => by
    have e1 : ts = [] := (Option.some.inj (show (some [] : Option (List T)) = some ts from e)).symm
    subst e1; exact h
  | d :: l, ts, vs, ⟨v, w, e0, h1, h2⟩, e => by
    obtain ⟨t, m, q, q2, e2⟩ := mapO_cons e
    subst e2
    exact ⟨v, w, e0, ih d t v h1 q, mapO_ok ih l m w h2 q2⟩
theorem snap_rt (s : SR K ca p F G M H) : ∀ (n : Nat) (d : D) (t : T) (v : V), RD K ca p F d v → snap M n d = some t → RT K ca (ext F p H) t v
  | n, .t x, t, v, h, e => by
    have e1 : x = t := by cases n <;> exact Option.some.inj e
    subst e1
    exact RT.sub ext_sub x v h
  | 0, .ref _, _, _, _, e => by cases e
  | 0, .tup _, _, _, _, e => by cases e
  | 0, .lst _, _, _, _, e => by cases e
  | n + 1, .ref i, t, v, h, e => by
    obtain ⟨a, h1, h2⟩ := h
    have ha : a ∈ p := List.mem_of_getElem? h1
    unfold snap at e
    cases q : M[i]? with
    | none => simp only [q] at e; cases e
    | some o =>
      simp only [q] at e
      have e1 := e
      cases o with
      | dK m =>
        obtain ⟨kvs, k1, k2⟩ := s.ob i a _ h1 q
        dsimp only at e1
        cases q2 : mapO (snap M n) (m.map (·.2)) with
        | none => rw [q2] at e1; cases e1
        | some ts =>
          rw [q2] at e1
          have e2 : T.dct (m.map (·.1)) ts = t := Option.some.inj e1
          subst e2
          obtain ⟨z1, z2⟩ := pr_split k2
          exact ⟨a, kvs.map (·.2), h2, .inl (by rw [ext_at (s.pf a ha) ha, k1, ← z1]), by rw [List.length_map, List.length_map, pr_len k2], mapO_ok (snap_rt s n) _ ts _ z2 q2⟩
      | obj c m =>
        obtain ⟨dx, kvs, k1, k2⟩ := s.ob i a _ h1 q
        dsimp only at e1
        cases q2 : mapO (snap M n) (m.map (·.2)) with
        | none => rw [q2] at e1; cases e1
        | some ts =>
          rw [q2] at e1
          have e2 : T.obj c (m.map (·.1)) ts = t := Option.some.inj e1
          subst e2
          obtain ⟨z1, z2⟩ := pr_split k2
          exact ⟨a, dx, kvs.map (·.2), h2, by rw [ext_at (s.pf a ha) ha, k1, ← z1], by rw [List.length_map, List.length_map, pr_len k2], mapO_ok (snap_rt s n) _ ts _ z2 q2⟩
      | lst m =>
        obtain ⟨vs, k1, k2⟩ := s.ob i a _ h1 q
        dsimp only at e1
        cases q2 : mapO (snap M n) m with
        | none => rw [q2] at e1; cases e1
        | some ts =>
          rw [q2] at e1
          have e2 : T.lst ts = t := Option.some.inj e1
          subst e2
          exact ⟨a, vs, h2, by rw [ext_at (s.pf a ha) ha]; exact k1, mapO_ok (snap_rt s n) m ts vs k2 q2⟩
      | _ => cases e1
  | n + 1, .tup m, t, v, h, e => by
    obtain ⟨a, vs, h1, h2, h3⟩ := h
    have e1 : (mapO (snap M n) m).map T.tup = some t := e
    cases q2 : mapO (snap M n) m with
    | none => rw [q2] at e1; cases e1
    | some ts =>
      rw [q2] at e1
      have e2 : T.tup ts = t := Option.some.inj e1
      subst e2
      exact ⟨a, vs, h1, sqT_sub ext_sub h2, mapO_ok (snap_rt s n) m ts vs h3 q2⟩
  | n + 1, .lst m, t, v, h, e => by
    obtain ⟨a, vs, h1, h2, h3⟩ := h
    have e1 : (mapO (snap M n) m).map T.lst = some t := e
    cases q2 : mapO (snap M n) m with
    | none => rw [q2] at e1; cases e1
    | some ts =>
      rw [q2] at e1
      have e2 : T.lst ts = t := Option.some.inj e1
      subst e2
      exact ⟨a, vs, h1, ext_sub _ _ h2, mapO_ok (snap_rt s n) m ts vs h3 q2⟩
mutual
theorem rt_dp (s : Sub F H) : ∀ (t : T) (v : V), RT K ca F t v → (toPy t).canLay0 = true → Dp K H v (toPy t)
  | .non, v, h, _ => by cases h; exact .non
  | .bl b, v, h, _ => by cases h; exact .bl b
  | .int i, v, h, _ => by cases h; exact .int i
  | .str x, v, h, _ => by cases h; exact .str x
  | .tup l, v, h, e => by
    obtain ⟨a, vs, h1, h2, h3⟩ := h
    subst h1
    exact .tup (sqT_sub s h2) (rts_dp s l vs h3 (by simpa [toPy, PyData.canLay0] using e))
  | .lst l, v, h, e => by
    obtain ⟨a, vs, h1, h2, h3⟩ := h
    subst h1
    exact .lst (SqL.of (s _ _ h2)) (rts_dp s l vs h3 (by simpa [toPy, PyData.canLay0] using e))
  | .scr l, v, h, e => by simp [toPy, PyData.canLay0] at e
  | .dct _ _, v, h, e => by simp [toPy, PyData.canLay0] at e
  | .obj _ _ _, v, h, e => by simp [toPy, PyData.canLay0] at e
theorem rts_dp (s : Sub F H) : ∀ (l : List T) (vs : List V), RTs K ca F l vs → PyData.canLayAll0 (toPys l) = true → DpAll K H vs (toPys l)
  | [], vs, h, _ => by cases h; exact .nil
  | t :: l, vs, ⟨v, w, e0, h1, h2⟩, e => by
    subst e0
    have e' : (toPy t).canLay0 = true ∧ PyData.canLayAll0 (toPys l) = true := by simpa [toPys, PyData.canLayAll0] using e
    exact .cons (rt_dp s t v h1 e'.1) (rts_dp s l w h2 e'.2)
end
theorem scV_rel {d : D} {v u : V} (r : RD K ca p F d v) (e : scV d = some u) : v = u ∧ flatV u = true := by
  cases d with
  | t x =>
    cases x with
    | non => exact ⟨r.trans (Option.some.inj e), by have := Option.some.inj e; subst this; rfl⟩
    | bl b => exact ⟨r.trans (Option.some.inj e), by have := Option.some.inj e; subst this; rfl⟩
    | int b => exact ⟨r.trans (Option.some.inj e), by have := Option.some.inj e; subst this; rfl⟩
    | str b => exact ⟨r.trans (Option.some.inj e), by have := Option.some.inj e; subst this; rfl⟩
    | _ => cases e
  | _ => cases e
theorem scVs_rel : ∀ {l : List D} {vs us : List V}, RDs K ca p F l vs → mapO scV l = some us → vs = us ∧ us.all flatV = true
  | [], vs, us, h, e => by
    have e1 : us = [] := (Option.some.inj (show (some [] : Option (List V)) = some us from e)).symm
    subst e1; exact ⟨h, rfl⟩
  | d :: l, vs, us, ⟨v, w, e0, h1, h2⟩, e => by
    obtain ⟨t, m, q, q2, e2⟩ := mapO_cons e
    subst e2
    obtain ⟨k1, k2⟩ := scV_rel h1 q
    obtain ⟨k3, k4⟩ := scVs_rel h2 q2
    subst e0
    exact ⟨by rw [k1, k3], by simp [k2, k4]⟩
end
section
variable {X : Cx} {ca : Nat → Addr}
def rV (K : PySem.W.Frag) (ca : Nat → Addr) (f : D → D → Ar → Res D) : R2 := fun x y H Q => ∃ p F G M d e W, SR K ca p F G M H ∧ RD K ca p F d x ∧ RD K ca p F e y ∧ Tk K ca (RD K ca) W G p F (f d e M) Q
def binO : BinK → Operator
  | .add => .Add | .sub => .Sub | .mul => .Mult | .fdiv => .FloorDiv | .mod => .Mod | .pow => .Pow
theorem line_eq : line = sizeLine := by rw [sizeLine_eq]; rfl
theorem bin_list {K : PySem.W.Frag} {p : List Addr} {F G : Hp} {M : Ar} {W : XK} {o : BinK} {mu : Bool} {d e : D} {x y : V} {Q : VK} (hu : ∀ i j, ¬ (d = .t (.int i) ∧ e = .t (.int j))) (hu2 : ∀ i j, ¬ (d = .t (.str i) ∧ e = .t (.str j))) (h : Tk K ca (RD K ca) W G p F (binV o mu d e M) Q) :
    (∃ l m, o = .add ∧ lsOf M d = some l ∧ lsOf M e = some m ∧ Tk K ca (RD K ca) W G p F (mkLn mu (l ++ m) M) Q) ∨ (∃ l k, o = .mul ∧ lsOf M d = some l ∧ e = .t (.int k) ∧ Tk K ca (RD K ca) W G p F (repL mu l k M) Q) := by
  unfold binV at h
  split at h
  · rename_i i j
    exact absurd ⟨rfl, rfl⟩ (hu i j)
  · rename_i i j
    exact absurd ⟨rfl, rfl⟩ (hu2 i j)
  · split at h
    · rename_i l m h1 h2
      exact .inl ⟨l, m, rfl, h1, h2, h⟩
    · rename_i l h1 h2
      split at h
      · exact .inr ⟨l, _, rfl, h1, rfl, h⟩
      · exact h.elim
    · exact h.elim
theorem op_binV (o : BinK) (mu : Bool) : OpR X (binaryOp (binO o)) (rV X.K ca (binV o mu)) := by
  intro pins s σ H x y v u Q I rx ry h
  obtain ⟨p, F, G, M, d, e, W, sr, rd, re, h⟩ := h
  by_cases hi : ∃ i j, d = .t (.int i) ∧ e = .t (.int j)
  · obtain ⟨i, j, rfl, rfl⟩ := hi
    have ex : x = .int i := rd
    have ey : y = .int j := re
    subst ex ey
    cases o with
    | add => exact op_add pins s σ H _ _ v u Q I rx ry ⟨i, j, rfl, rfl, h.ok sr rfl⟩
    | sub => exact op_sub pins s σ H _ _ v u Q I rx ry ⟨i, j, rfl, rfl, h.ok sr rfl⟩
    | mul =>
      obtain ⟨h1, h2⟩ := Tk.okIf h
      refine op_mul pins s σ H _ _ v u Q I rx ry ⟨i, j, rfl, rfl, ?_, h2.ok sr rfl⟩
      simpa [CMul] using h1
    | fdiv =>
      obtain ⟨h1, h2⟩ := Tk.okIf h
      refine op_fdiv pins s σ H _ _ v u Q I rx ry ⟨i, j, rfl, rfl, ?_, h2.ok sr rfl⟩
      simpa [CDiv] using h1
    | mod =>
      obtain ⟨h1, h2⟩ := Tk.okIf h
      exact op_mod pins s σ H _ _ v u Q I rx ry ⟨i, j, rfl, rfl, of_decide_eq_true h1, h2.ok sr rfl⟩
    | pow =>
      obtain ⟨h1, h2⟩ := Tk.okIf h
      refine op_pow pins s σ H _ _ v u Q I rx ry ⟨i, j, rfl, rfl, ?_, h2.ok sr rfl⟩
      simp only [Bool.and_eq_true, decide_eq_true_eq] at h1
      exact ⟨h1.1.1, h1.1.2, h1.2⟩
  · by_cases hs : ∃ i j, d = .t (.str i) ∧ e = .t (.str j)
    · obtain ⟨i, j, rfl, rfl⟩ := hs
      have ex : x = .str i := rd
      have ey : y = .str j := re
      subst ex ey
      cases o with
      | add =>
        obtain ⟨h1, h2⟩ := Tk.okIf h
        have h3 := of_decide_eq_true h1
        rw [line_eq] at h3
        exact op_add_str pins s σ H _ _ v u Q I rx ry ⟨i, j, rfl, rfl, h3, h2.ok sr rfl⟩
      | _ => exact h.elim
    rcases bin_list (x := x) (y := y) (fun i j q => hi ⟨i, j, q⟩) (fun i j q => hs ⟨i, j, q⟩) h with ⟨l, m, rfl, h1, h2, h⟩ | ⟨l, k, rfl, h1, rfl, hm⟩
    · obtain ⟨a, vs, rfl, k1, k2⟩ := lsOf_ok sr rd h1
      obtain ⟨b, ws, rfl, k3, k4⟩ := lsOf_ok sr re h2
      obtain ⟨z1, z2⟩ := Tk.okIf h
      have z3 := of_decide_eq_true z1
      rw [List.length_append, k2.length, k4.length, line_eq] at z3
      exact op_cat pins s σ H _ _ v u Q I rx ry ⟨a, b, vs, ws, rfl, rfl, k1, k3, z3, fun q hq => mkL_ok sr (k2.app k4) z2 hq⟩
    · obtain ⟨a, vs, rfl, k1, k2⟩ := lsOf_ok sr rd h1
      have ey : y = .int k := re
      subst ey
      obtain ⟨z1, z2⟩ := Tk.okIf hm
      simp only [Bool.and_eq_true, decide_eq_true_eq] at z1
      rw [k2.length, line_eq] at z1
      have rep : ∀ n : Nat, RDs X.K ca p F (List.replicate n l).flatten (List.replicate n vs).flatten := fun n => by
        induction n with
        | zero => exact rfl
        | succ n ih => rw [List.replicate_succ, List.replicate_succ, List.flatten_cons, List.flatten_cons]; exact k2.app ih
      exact op_rep pins s σ H _ _ v u Q I rx ry ⟨a, k, vs, rfl, rfl, k1, z1.1.1, z1.1.2, z1.2, fun q hq => mkL_ok sr (rep _) z2 hq⟩
def cmpO : CmpK → CmpOp
  | .eq => .Eq | .ne => .NotEq | .lt => .Lt | .le => .LtE | .gt => .Gt | .ge => .GtE | .isIn => .In | .notIn => .NotIn
theorem shaped_lay {d : PyData} (h : SeqAt.shaped d = true) : d.canLay0 = true := SeqAt.canLay_of_shaped h
theorem eqV3_ok {K : PySem.W.Frag} {p : List Addr} {F G H : Hp} {M : Ar} {W : XK} {d e : D} {x y : V} {Q : VK} {k : Bool → Bool} (sr : SR K ca p F G M H) (rd : RD K ca p F d x) (re : RD K ca p F e y) (h : Tk K ca (RD K ca) W G p F (eqV3 M d e k) Q) :
    ∃ a b, Dp K H x a ∧ Dp K H y b ∧ SeqAt.shaped a = true ∧ SeqAt.shaped b = true ∧ Q (.bl (k (PyData.eqv a b))) H := by
  unfold eqV3 at h
  cases q1 : snap M deep d with
  | none => rw [q1] at h; exact h.elim
  | some a =>
    cases q2 : snap M deep e with
    | none => rw [q1, q2] at h; exact h.elim
    | some b =>
      rw [q1, q2] at h
      obtain ⟨z1, z2⟩ := Tk.okIf h
      obtain ⟨s1, s2⟩ := Bool.and_eq_true_iff.mp z1
      have r1 := snap_rt sr deep d a x rd q1
      have r2 := snap_rt sr deep e b y re q2
      exact ⟨toPy a, toPy b, rt_dp (ext_in sr.fr) a x r1 (shaped_lay s1), rt_dp (ext_in sr.fr) b y r2 (shaped_lay s2), s1, s2, z2.ok sr rfl⟩
theorem eqV2_cases {M : Ar} {d e : D} {k : Bool → Bool} : eqV2 M d e k = eqV3 M d e k ∨ ∃ l m, lsOf M d = some l ∧ lsOf M e = some m ∧ l.length ≠ m.length ∧ eqV2 M d e k = .ok (.t (.bl (k false))) M := by
  unfold eqV2
  cases q1 : lsOf M d with
  | none => exact .inl rfl
  | some l =>
    cases q2 : lsOf M e with
    | none => exact .inl rfl
    | some m =>
      by_cases h : l.length = m.length
      · left; simp only [decide_eq_true h]
      · right; exact ⟨l, m, rfl, rfl, h, by simp only [decide_eq_false h]⟩
theorem inV2_ok {K : PySem.W.Frag} {p : List Addr} {F G H : Hp} {M : Ar} {W : XK} {d e : D} {x y : V} {Q : VK} {k : Bool → Bool} (sr : SR K ca p F G M H) (rd : RD K ca p F d x) (re : RD K ca p F e y) (h : Tk K ca (RD K ca) W G p F (inV2 M d e k) Q) :
    ∃ a vs, y = .ref a ∧ (SqL K H a vs ∨ SqT K H a vs) ∧ flatV x = true ∧ vs.all flatV = true ∧ Q (.bl (k (inV x vs))) H := by
  unfold inV2 at h
  cases q1 : scV d with
  | none => rw [q1] at h; exact h.elim
  | some v =>
    cases q2 : sqOf M e with
    | none => rw [q1, q2] at h; exact h.elim
    | some l =>
      rw [q1, q2] at h
      obtain ⟨e1, f1⟩ := scV_rel rd q1
      subst e1
      obtain ⟨a, vs, e2, h1, h2⟩ := sqOf_ok sr re q2
      cases q3 : mapO scV l with
      | none => simp only [Option.bind_some, q3] at h; exact h.elim
      | some us =>
        simp only [Option.bind_some, q3] at h
        obtain ⟨e3, f2⟩ := scVs_rel h2 q3
        subst e3
        exact ⟨a, vs, e2, h1, f1, f2, h.ok sr rfl⟩
theorem sgOf_ok {x : Str} {c : Nat} (h : sgOf x = some c) : x = ⟨#[c]⟩ := by
  unfold sgOf at h
  split at h
  · rename_i d e
    cases h
    obtain ⟨a⟩ := x
    have e1 : a.toList = [c] := e
    have e2 : a = #[c] := by
      have := congrArg List.toArray e1
      simpa using this
    rw [e2]
  · cases h
/-- x in y, of all sorts -/
theorem op_inV (neg : Bool) (hu : X.A.units + 65 < cLine) {pins : List (Addr × Obj)} {s : Shared} {σ : L2.St} {H : Hp} {x y : V} {v u : Value} {Q : VK} {p : List Addr} {F G : Hp} {M : Ar} {d e : D} {W : XK} (I : Inv X pins σ H s) (rx : RelV x v) (ry : RelV y u) (sr : SR X.K ca p F G M H) (rd : RD X.K ca p F d x) (re : RD X.K ca p F e y)
    (h : Tk X.K ca (RD X.K ca) W G p F (inV1 M d e (if neg then not else id)) Q) : wpAny (model X.prog X.w) X.A (compareOp (if neg then .NotIn else .In) v u) (EP X pins σ Q) X.xe s := by
  have hu1 : X.A.units + 1 < cLine := by omega
  unfold inV1 at h
  cases q1 : stOf e with
  | some t =>
    simp only [q1] at h
    have ey := stOf_ok re q1
    subst ey
    cases q2 : stOf d with
    | none => simp only [q2] at h; exact h.elim
    | some z =>
      simp only [q2] at h
      have ex := stOf_ok rd q2
      subst ex
      unfold inS1 at h
      cases q3 : sgOf z with
      | some c =>
        simp only [q3] at h
        have ez := sgOf_ok q3
        subst ez
        cases neg with
        | false => exact op_in_sign pins s σ H _ _ v u Q I rx ry ⟨c, t, rfl, rfl, h.ok sr rfl⟩
        | true => exact op_notIn_sign pins s σ H _ _ v u Q I rx ry ⟨c, t, rfl, rfl, h.ok sr rfl⟩
      | none =>
        simp only [q3] at h
        cases neg with
        | false => exact op_in_str pins s σ H _ _ v u Q I rx ry ⟨z, t, rfl, rfl, h.ok sr rfl⟩
        | true => exact op_notIn_str pins s σ H _ _ v u Q I rx ry ⟨z, t, rfl, rfl, h.ok sr rfl⟩
  | none =>
    simp only [q1] at h
    cases q2 : dkOf M e with
    | some l =>
      simp only [q2] at h
      obtain ⟨a, kvs, rfl, k1, k2⟩ := dkOf_ok sr re q2
      obtain rfl : u = Value.ref a := ry
      cases q3 : keyD d with
      | some k =>
        simp only [q3] at h
        have ex := keyD_ok rd q3
        subst ex
        have hv : (valD l k).isSome = (valV kvs k).isSome := by
          obtain ⟨v1, v2⟩ := val_ok (k := k) k2
          cases q4 : valD l k with
          | none => rw [v2 q4]; rfl
          | some dd => obtain ⟨vv, e1, _⟩ := v1 dd q4; rw [e1]; rfl
        rw [hv] at h
        have g : DGet H a (kV k) (valV kvs k) := .inl ⟨kvs, k, k1, rfl, rfl⟩
        cases neg with
        | false => exact d_in hu1 I g rx fun s3 I3 => ⟨.bl _, H, I3, rfl, h.ok sr rfl⟩
        | true => exact d_notIn hu1 I g rx fun s3 I3 => ⟨.bl _, H, I3, rfl, h.ok sr rfl⟩
      | none =>
        simp only [q3] at h
        split at h
        · obtain rfl : x = .non := rd
          obtain rfl : v = Value.none := rx
          cases neg with
          | false => exact d_inNone I k1 fun s3 I3 => ⟨.bl false, H, I3, rfl, h.ok sr rfl⟩
          | true => exact d_notInNone I k1 fun s3 I3 => ⟨.bl true, H, I3, rfl, h.ok sr rfl⟩
        · exact h.elim
    | none =>
      simp only [q2] at h
      cases q9 : scV d with
      | none =>
        simp only [q9] at h
        unfold inDp at h
        cases q4 : snap M deep d with
        | none => simp only [q4] at h; exact h.elim
        | some ta =>
          cases q5 : snap M deep e with
          | none => simp only [q4, q5] at h; exact h.elim
          | some tb =>
            simp only [q4, q5] at h
            cases tb with
            | lst bs =>
              simp only at h
              obtain ⟨z1, z2⟩ := Tk.okIf h
              obtain ⟨s1, s2⟩ := Bool.and_eq_true_iff.mp z1
              have r1 := snap_rt sr deep d ta x rd q4
              have r2 := snap_rt sr deep e (.lst bs) y re q5
              have d1 := rt_dp (ext_in sr.fr) ta x r1 (shaped_lay s1)
              have d2 : Dp X.K H y (.list (toPys bs)) := rt_dp (ext_in sr.fr) (.lst bs) y r2 (shaped_lay s2)
              cases neg with
              | false => exact op_inD hu pins s σ H x y v u Q I rx ry ⟨toPy ta, toPys bs, d1, d2, s1, s2, z2.ok sr rfl⟩
              | true => exact op_notInD hu pins s σ H x y v u Q I rx ry ⟨toPy ta, toPys bs, d1, d2, s1, s2, z2.ok sr rfl⟩
            | _ => exact h.elim
      | some xv =>
      simp only [q9] at h
      obtain ⟨a, vs, h1, h2, h3, h4, q⟩ := inV2_ok sr rd re h
      cases neg with
      | false => exact op_in_seq pins s σ H x y v u Q I rx ry ⟨a, vs, h1, h2, h3, h4, q⟩
      | true => exact op_notIn_seq pins s σ H x y v u Q I rx ry ⟨a, vs, h1, h2, h3, h4, q⟩
theorem op_cmpV (o : CmpK) (hu : X.A.units + 65 < cLine) : OpR X (compareOp (cmpO o)) (rV X.K ca (cmpV o)) := by
  intro pins s σ H x y v u Q I rx ry h
  obtain ⟨p, F, G, M, d, e, W, sr, rd, re, h⟩ := h
  have hints : ∀ {o : CmpK} {f : Int → Int → Bool}, (∀ i j, cmpI o i j = some (f i j)) → Tk X.K ca (RD X.K ca) W G p F (cmpN o d e M) Q → ∃ i j, x = .int i ∧ y = .int j ∧ Q (.bl (f i j)) H := fun {o f} hf h => by
    by_cases hi : ∃ i j, d = .t (.int i) ∧ e = .t (.int j)
    · obtain ⟨i, j, e1, e2⟩ := hi
      subst e1 e2
      unfold cmpN at h
      simp only [hf i j] at h
      exact ⟨i, j, rd, re, h.ok sr rfl⟩
    · unfold cmpN at h
      split at h
      · exact absurd ⟨_, _, rfl, rfl⟩ hi
      · exact h.elim
  cases o with
  | eq =>
    have h' : Tk X.K ca (RD X.K ca) W G p F (eqV2 M d e id) Q := h
    rcases eqV2_cases (M := M) (d := d) (e := e) (k := id) with z | ⟨l, m, z1, z2, z3, z4⟩
    · rw [z] at h'
      obtain ⟨a, b, h1, h2, h3, h4, q⟩ := eqV3_ok sr rd re h'
      exact op_eqD (by omega) pins s σ H x y v u Q I rx ry ⟨a, b, h1, h2, h3, h4, q⟩
    · rw [z4] at h'
      obtain ⟨a, vs, rfl, k1, k2⟩ := lsOf_ok sr rd z1
      obtain ⟨b, ws, rfl, k3, k4⟩ := lsOf_ok sr re z2
      obtain rfl : v = Value.ref a := rx
      obtain rfl : u = Value.ref b := ry
      obtain ⟨i1, r1, p1, _⟩ := I.list (SqL.of (K := X.K) k1)
      obtain ⟨i2, r2, p2, _⟩ := I.list (SqL.of (K := X.K) k3)
      refine SeqAt.eq_list_lengthsAt p1.isList p2.isList ?_ (by omega) ⟨.bl false, H, I, rfl, Tk.ok h' sr rfl⟩
      have e1 := r1.length
      have e2 := r2.length
      have e3 := k2.length
      have e4 := k4.length
      simp only [List.size_toArray, bne_iff_ne, ne_eq]
      omega
  | ne =>
    have h' : Tk X.K ca (RD X.K ca) W G p F (eqV2 M d e not) Q := h
    rcases eqV2_cases (M := M) (d := d) (e := e) (k := not) with z | ⟨l, m, z1, z2, z3, z4⟩
    · rw [z] at h'
      obtain ⟨a, b, h1, h2, h3, h4, q⟩ := eqV3_ok sr rd re h'
      exact op_neD (by omega) pins s σ H x y v u Q I rx ry ⟨a, b, h1, h2, h3, h4, q⟩
    · rw [z4] at h'
      obtain ⟨a, vs, rfl, k1, k2⟩ := lsOf_ok sr rd z1
      obtain ⟨b, ws, rfl, k3, k4⟩ := lsOf_ok sr re z2
      obtain rfl : v = Value.ref a := rx
      obtain rfl : u = Value.ref b := ry
      obtain ⟨i1, r1, p1, _⟩ := I.list (SqL.of (K := X.K) k1)
      obtain ⟨i2, r2, p2, _⟩ := I.list (SqL.of (K := X.K) k3)
      refine SeqAt.RcNeAt.lists_lengths p1.isList p2.isList ?_ (by omega) X.prog X.w X.xe _ ⟨.bl true, H, I, rfl, Tk.ok h' sr rfl⟩
      have e1 := r1.length
      have e2 := r2.length
      have e3 := k2.length
      have e4 := k4.length
      simp only [List.size_toArray, bne_iff_ne, ne_eq]
      omega
  | isIn =>
    exact op_inV false hu I rx ry sr rd re h
  | notIn =>
    exact op_inV true hu I rx ry sr rd re h
  | lt =>
    obtain ⟨i, j, e1, e2, q⟩ := hints (o := .lt) (f := fun i j => decide (i < j)) (fun _ _ => rfl) h
    exact op_lt pins s σ H x y v u Q I rx ry ⟨i, j, e1, e2, q⟩
  | le =>
    obtain ⟨i, j, e1, e2, q⟩ := hints (o := .le) (f := fun i j => decide (i ≤ j)) (fun _ _ => rfl) h
    exact op_le pins s σ H x y v u Q I rx ry ⟨i, j, e1, e2, q⟩
  | gt =>
    obtain ⟨i, j, e1, e2, q⟩ := hints (o := .gt) (f := fun i j => decide (j < i)) (fun _ _ => rfl) h
    exact op_gt pins s σ H x y v u Q I rx ry ⟨i, j, e1, e2, q⟩
  | ge =>
    obtain ⟨i, j, e1, e2, q⟩ := hints (o := .ge) (f := fun i j => decide (j ≤ i)) (fun _ _ => rfl) h
    exact op_ge pins s σ H x y v u Q I rx ry ⟨i, j, e1, e2, q⟩
theorem ix_V (hu : X.A.units + 65 < cLine) : IxR X (rV X.K ca idxV) := by
  have hu1 : X.A.units + 1 < cLine := by omega
  intro value slice pins s σ H x y v u Q I rx ry h hs
  obtain ⟨p, F, G, M, d, e, W, sr, rd, re, h⟩ := h
  unfold idxV at h
  cases q1 : stOf d with
  | some z =>
    simp only [q1] at h
    have ex := stOf_ok rd q1
    subst ex
    unfold idxS at h
    split at h
    · rename_i i
      have ey : y = .int i := re
      subst ey
      obtain ⟨h1, h2⟩ := Tk.okIf h
      have h3 := of_decide_eq_true h1
      rw [line_eq] at h3
      cases q2 : atI z.cps.toList i with
      | none => simp only [q2] at h2; exact h2.elim
      | some c =>
        simp only [q2] at h2
        exact ix_str value slice pins s σ H _ _ v u Q I rx ry ⟨z, i, c, rfl, rfl, h3, q2, h2.ok sr rfl⟩ hs
    · exact h.elim
  | none =>
    simp only [q1] at h
    cases q2 : dkOf M d with
    | some l =>
      simp only [q2] at h
      obtain ⟨a, kvs, rfl, k1, k2⟩ := dkOf_ok sr rd q2
      obtain rfl : v = Value.ref a := rx
      unfold idxD at h
      cases q3 : keyD e with
      | none => simp only [q3] at h; exact h.elim
      | some k =>
        simp only [q3] at h
        have ey := keyD_ok re q3
        subst ey
        cases q4 : valD l k with
        | none => simp only [q4] at h; exact h.elim
        | some dd =>
          simp only [q4] at h
          obtain ⟨w, e1, e2⟩ := (val_ok (k := k) k2).1 dd q4
          have g : DGet H a (kV k) (some w) := .inl ⟨kvs, k, k1, rfl, e1.symm⟩
          exact tail_any (dict_typeIs I g) PySem.F.slot_dict_getitem.lookup (d_getItem hu1 I g ry fun w' s3 I3 rw' => ⟨w, H, I3, rw', h.ok sr e2⟩) hs
    | none =>
      simp only [q2] at h
      have key : rIx X.K x y H Q := by
        unfold idxQ at h
        split at h
        · rename_i l i q1
          obtain ⟨a, vs, rfl, h1, h2⟩ := sqOf_ok sr rd q1
          have ey : y = .int i := re
          subst ey
          cases q2 : atI l i with
          | none => rw [q2] at h; exact h.elim
          | some d' =>
            rw [q2] at h
            obtain ⟨v, e1, e2⟩ := h2.at_ q2
            rcases h1 with h1 | h1
            · exact .inl ⟨a, vs, i, v, rfl, rfl, h1, e1, h.ok sr e2⟩
            · exact .inr (.inl ⟨a, vs, i, v, rfl, rfl, h1, e1, h.ok sr e2⟩)
        · exact h.elim
      exact ix_seq value slice pins s σ H x y v u Q I rx ry key hs
end
end Rw
end
section
set_option Elab.async false
set_option linter.all false
set_option maxRecDepth 100000
namespace Rw.Mn
open PySem PySem.Spec PyProof.Rows L2
/-- the tuples that stand in the heap -/
def Tups (ps : List (Addr × List Int)) (h : Heap) : Prop := ∀ q ∈ ps, ∃ its : Array Value, IsTup h q.1 its ∧ IntsAre its.toList q.2
theorem IsTup.stay {h h' : Heap} {a : Addr} {its : Array Value} (t : IsTup h a its) (k : ∀ o, h.get? a = some o → h'.get? a = some o) : IsTup h' a its := by
  obtain ⟨o, e, r⟩ := t
  exact ⟨o, k o e, r⟩
section
variable {prog : Program} {w : World} {A : Around} {I l : Addr} {St : Nat → Heap → Prop} {fp wr : List Addr} {ps : List (Addr × List Int)}
def keyAt (ps : List (Addr × List Int)) (i : Nat) : List Int := ((ps[i]?).map (·.2)).getD []
def bt (ps : List (Addr × List Int)) (i j : Nat) : Bool := HT.lexLt (keyAt ps i) (keyAt ps j)
def Pv (ps : List (Addr × List Int)) (i : Nat) (v : Value) : Prop := ∃ q, ps[i]? = some q ∧ v = .ref q.1
theorem cmp_ok {i j : Nat} {vi vj : Value} {s : Shared} {Q : Value → Shared → Prop} {E : Value → Shared → Prop} (hu : A.units < cLine) (hi : Pv ps i vi) (hj : Pv ps j vj) (ht : Tups ps s.heap) (h : Q (.bool (bt ps i j)) s) : wpAny (model prog w) A (richCompare .Lt vi vj) Q E s := by
  obtain ⟨q, e1, rfl⟩ := hi
  obtain ⟨r, e2, rfl⟩ := hj
  obtain ⟨its, t1, t2⟩ := ht q (List.mem_of_getElem? e1)
  obtain ⟨its2, t3, t4⟩ := ht r (List.mem_of_getElem? e2)
  have hk : bt ps i j = HT.lexLt q.2 r.2 := by
    unfold bt keyAt
    rw [e1, e2]
    rfl
  rw [hk] at h
  exact HT.lt_tupInts t1 t3 t2 t4 hu h
theorem uo {h : Heap} {S b : Addr} {f : Obj → Obj} {o : Obj} (n : b ≠ S) (e : h.get? b = some o) : (h.update S f).get? b = some o := (Heap.get?_update_other _ _ (Ne.symm n)).trans e
/-- what a turn of the loop leaves as it is -/
def Keeps (ps : List (Addr × List Int)) (wr : List Addr) (S : Addr) : Prop := ∀ q ∈ ps, q.1 ∉ wr ∧ q.1 ≠ S
theorem Tups.stay {h h' : Heap} {S : Addr} (t : Tups ps h) (kp : Keeps ps wr S) (k : ∀ b o, b ∉ wr → b ≠ S → h.get? b = some o → h'.get? b = some o) : Tups ps h' := fun q hq => by
  obtain ⟨its, t1, t2⟩ := t q hq
  exact ⟨its, IsTup.stay t1 fun o e => k _ o (kp q hq).1 (kp q hq).2 e, t2⟩
theorem loop_ok (W : Walks prog w A.in1 I fp wr ps.length (Pv ps) St) (hu : A.in1.units < cLine) {S : Addr} (hSf : S ∉ fp) (kp : Keeps ps wr S) {R : Result → Shared → Prop} :
    ∀ (m j : Nat) (s : Shared) (vb : Value) (c : Nat), ps.length - (j + 1) = m → j + 1 ≤ ps.length → St (j + 1) s.heap → Pv ps (argBest (bt ps) j) vb → Tups ps s.heap →
    s.heap.get? S = some { cls := .type "list", dict := none, data := .seq #[vb, vb] c, slots := #[] } →
    (∀ v h' tk, Pv ps (argBest (bt ps) (ps.length - 1)) v → (∀ b o, b ∉ wr → b ≠ S → s.heap.get? b = some o → h'.get? b = some o) → R (.ok (.ret v)) { s with heap := h', toks := tk }) →
    codeAny (model prog w) A (.builtin "min.loop" ⟨[.ref I, .none, .ref S], []⟩) R s := by
  have hSw : S ∉ wr := fun z => hSf (W.sub _ z)
  have hnm : (toString "min" ++ toString ".loop" : String) = "min.loop" := by decide
  intro m
  induction m with
  | zero =>
    intro j s vb c hk hj hst hPb ht hS hR
    have hin : j + 1 = ps.length := by omega
    refine codeAny_builtin F.entry_min_loop ?_
    rw [Around.under_plainId F.plain_min_loop _]
    show wpAny _ A.in1 (seqItems? (.ref S) >>= _) _ _ s
    refine wpAny_bind (wpAny_seqItems hS rfl ?_)
    show wpAny _ A.in1 (tryCatch (pyNext (.ref I)) _ >>= _) _ _ s
    refine wpAny_bind (wpAny_tryCatch (W.done s _ _ (hin ▸ hst) fun h1 tk k1 => ?_))
    have hS1 := k1 S _ hSw hS
    show wpAny _ A.in1 (updateSeq S (fun _ => #[]) >>= _) _ _ _
    refine wpAny_bind (wpAny_updateSeq hS1 rfl (wpAny_bind (wpAny_letGo (wpAny_pure ?_))))
    refine hR vb _ tk (by rw [← hin]; exact hPb) fun b o b1 b2 e => (Heap.get?_update_other _ _ (Ne.symm b2)).trans (k1 b o b1 e)
  | succ m ih =>
    intro j s vb c hk hj hst hPb ht hS hR
    have hlt : j + 1 < ps.length := by omega
    refine codeAny_builtin F.entry_min_loop ?_
    rw [Around.under_plainId F.plain_min_loop _]
    show wpAny _ A.in1 (seqItems? (.ref S) >>= _) _ _ s
    refine wpAny_bind (wpAny_seqItems hS rfl ?_)
    show wpAny _ A.in1 (tryCatch (pyNext (.ref I)) _ >>= _) _ _ s
    refine wpAny_bind (wpAny_tryCatch (W.item (j + 1) s _ _ hlt hst fun v h1 tk hP st1 k1 => ?_))
    have hS1 := k1 S _ hSw hS
    have ht1 : Tups ps h1 := ht.stay kp fun b o b1 b2 e => k1 b o b1 e
    show wpAny _ A.in1 (tryCatch (holding [v, v] (richCompare .Lt v vb >>= _)) _ >>= _) _ _ _
    refine wpAny_bind (wpAny_tryCatch (wpAny_holding (wpAny_bind (cmp_ok hu hP hPb ht1 ?_))))
    refine wpAny_bind (wpAny_holding (wpAny_truthy_bool ?_))
    refine wpAny_bind (wpAny_letGo (wpAny_pure ?_))
    cases hb : bt ps (j + 1) (argBest (bt ps) j) with
    | true =>
      simp only [if_true]
      refine wpAny_bind (wpAny_updateSeq hS1 rfl (wpAny_bind (wpAny_letGo ?_)))
      rw [hnm]
      refine wpAny_pure ⟨plainId_quiet F.plain_min_loop _, ih (j + 1) _ v _ (by omega) hlt (W.frame _ _ _ st1 fun b hbf o e => uo (fun z => hSf (z ▸ hbf)) e) (by simp only [argBest, hb, if_true]; exact hP) (ht1.stay kp fun b o _ b2 e => uo b2 e) (Heap.get?_update_self _ hS1 rfl) fun v2 h2 tk2 P2 k2 => ?_⟩
      exact hR v2 h2 tk2 P2 fun b o b1 b2 e => k2 b o b1 b2 (uo b2 (k1 b o b1 e))
    | false =>
      simp only [Bool.false_eq_true, if_false]
      refine wpAny_bind (wpAny_letGo ?_)
      rw [hnm]
      refine wpAny_pure ⟨plainId_quiet F.plain_min_loop _, ih (j + 1) _ vb c (by omega) hlt st1 (by simp only [argBest, hb, Bool.false_eq_true, if_false]; exact hPb) ht1 hS1 fun v2 h2 tk2 P2 k2 => ?_⟩
      exact hR v2 h2 tk2 P2 fun b o b1 b2 e => k2 b o b1 b2 (k1 b o b1 e)
theorem first_ok (W : Walks prog w A.in1 I fp wr ps.length (Pv ps) St) (hu : A.in1.units < cLine) {S : Addr} (hSf : S ∉ fp) (kp : Keeps ps wr S) (hn : 0 < ps.length) {R : Result → Shared → Prop} {s : Shared} {c : Nat} (hst : St 0 s.heap) (ht : Tups ps s.heap)
    (hS : s.heap.get? S = some { cls := .type "list", dict := none, data := .seq #[] c, slots := #[] })
    (hR : ∀ v h' tk, Pv ps (argBest (bt ps) (ps.length - 1)) v → (∀ b o, b ∉ wr → b ≠ S → s.heap.get? b = some o → h'.get? b = some o) → R (.ok (.ret v)) { s with heap := h', toks := tk }) :
    codeAny (model prog w) A (.builtin "min.loop" ⟨[.ref I, .none, .ref S], []⟩) R s := by
  have hSw : S ∉ wr := fun z => hSf (W.sub _ z)
  have hnm : (toString "min" ++ toString ".loop" : String) = "min.loop" := by decide
  refine codeAny_builtin F.entry_min_loop ?_
  rw [Around.under_plainId F.plain_min_loop _]
  show wpAny _ A.in1 (seqItems? (.ref S) >>= _) _ _ s
  refine wpAny_bind (wpAny_seqItems hS rfl ?_)
  show wpAny _ A.in1 (tryCatch (pyNext (.ref I)) _ >>= _) _ _ s
  refine wpAny_bind (wpAny_tryCatch (W.item 0 s _ _ hn hst fun v h1 tk hP st1 k1 => ?_))
  have hS1 := k1 S _ hSw hS
  show wpAny _ A.in1 (updateSeq S (fun _ => #[v, v]) >>= _) _ _ _
  refine wpAny_bind (wpAny_updateSeq hS1 rfl ?_)
  rw [hnm]
  have ht1 : Tups ps h1 := ht.stay kp fun b o b1 b2 e => k1 b o b1 e
  refine wpAny_pure ⟨plainId_quiet F.plain_min_loop _, loop_ok W hu hSf kp _ 0 _ v _ rfl hn (W.frame _ _ _ st1 fun b hbf o e => uo (fun z => hSf (z ▸ hbf)) e) hP (ht1.stay kp fun b o _ b2 e => uo b2 e) (Heap.get?_update_self _ hS1 rfl) fun v2 h2 tk2 P2 k2 => ?_⟩
  exact hR v2 h2 tk2 P2 fun b o b1 b2 e => k2 b o b1 b2 (uo b2 (k1 b o b1 e))
end
/-- min(list of tuples of ints) -/
theorem call_minT {prog : Program} {w : World} {A : Around} {E : Value → Shared → Prop} {s : Shared} {l : Addr} {ps : List (Addr × List Int)} {Q : Value → Shared → Prop} (hh : A.handled = none) (hu : A.in1.units < cLine) (hl : s.heap.IsList l (ps.map fun q => Value.ref q.1).toArray) (ht : Tups ps s.heap) (hn : 0 < ps.length)
    (h : ∀ v h' tk, Pv ps (argBest (bt ps) (ps.length - 1)) v → (∀ b o, s.heap.get? b = some o → h'.get? b = some o) → Q v { s with heap := h', toks := tk }) : wpAny (model prog w) A (call (.builtin "min") [.ref l]) Q E s := by
  have hnm : (toString "min" ++ toString ".loop" : String) = "min.loop" := by decide
  have hlt : l < s.heap.objs.size := by obtain ⟨_, e, _⟩ := id hl; exact Heap.lt_size e
  refine call_function_tree F.kind_min F.plain_min F.entry_min (F.args_min1 _) ?_
  show wpAny _ A.in1 (Builtin.Builtins.bindParams "min" ["key", "default"] 0 ⟨[], []⟩ >>= _) _ _ s
  refine wpAny_bind (wpAny_of_eq (show Builtin.Builtins.bindParams "min" ["key", "default"] 0 ⟨[], []⟩ = pure [none, none] from rfl) ?_)
  refine wpAny_bind (wpAny_pure (wpAny_bind (wpAny_pyIter_list hl ?_)))
  refine wpAny_bind (wpAny_newObj_type ?_)
  rw [hnm]
  have grow : ∀ b o, s.heap.get? b = some o → ((s.heap.push { cls := .type "list_iterator", data := .fields #[.ref l, .int 0 0] }).push { cls := .type "list", dict := none, data := .seq #[], slots := #[] }).get? b = some o := fun b o e => Heap.get?_push_of_some _ (Heap.get?_push_of_some _ e)
  have hz1 : (s.heap.push { cls := .type "list_iterator", data := .fields #[.ref l, .int 0 0] }).objs.size = s.heap.objs.size + 1 := Heap.size_push ..
  have W : Walks prog w A.in1 s.heap.objs.size [s.heap.objs.size, l] [s.heap.objs.size] ps.length (Pv ps) (fun i h => h.IsListIter s.heap.objs.size l i ∧ h.IsList l (ps.map fun q => Value.ref q.1).toArray) := by
    have W0 := Walks.list (prog := prog) (w := w) (A := A.in1) hh s.heap.objs.size l (Nat.ne_of_lt hlt) (ps.map fun q => Value.ref q.1).toArray
    have e : (ps.map fun q => Value.ref q.1).toArray.size = ps.length := by simp
    rw [e] at W0
    refine ⟨W0.sub, W0.frame, fun i s' Q' E' hi st hQ => W0.item i s' Q' E' hi st fun v h' tk hv => hQ v h' tk ?_, W0.done, W0.self⟩
    have hv' : (ps.map fun q => Value.ref q.1)[i]? = some v := by simpa using hv
    rw [List.getElem?_map] at hv'
    obtain ⟨q, e1, e2⟩ := Option.map_eq_some_iff.mp hv'
    exact ⟨q, e1, e2.symm⟩
  have ts : ∀ q ∈ ps, q.1 < s.heap.objs.size := fun q hq => by
    obtain ⟨its, ⟨o, e, _⟩, _⟩ := ht q hq
    exact Heap.lt_size e
  refine wpAny_pure ⟨plainId_quiet F.plain_min_loop _, first_ok (c := 0) W hu ?_ (fun q hq => ⟨fun z => ?_, ?_⟩) hn ⟨?_, ?_⟩ ?_ (Heap.get?_push_size _ rfl) fun v h' tk P1 k1 => ?_⟩
  · intro z
    rcases List.mem_cons.mp z with z | z
    · exact absurd z (by rw [hz1]; exact Nat.succ_ne_self _)
    · have z2 := List.mem_singleton.mp z
      exact absurd hlt (by rw [← z2, hz1]; exact Nat.not_lt.mpr (Nat.le_succ _))
  · have z1 := ts q hq
    have e : q.1 = s.heap.objs.size := List.mem_singleton.mp z
    rw [e] at z1
    exact Nat.lt_irrefl _ z1
  · have z1 := ts q hq
    exact Nat.ne_of_lt (by rw [hz1]; exact Nat.lt_succ_of_lt z1)
  · exact ⟨_, Heap.get?_push_of_some _ (Heap.get?_push_size _ rfl), rfl, rfl⟩
  · exact (hl.push _).push _
  · intro q hq
    obtain ⟨its, t1, t2⟩ := ht q hq
    exact ⟨its, IsTup.stay t1 fun o e => grow _ o e, t2⟩
  · refine h v h' tk P1 fun b o e => k1 b o (fun z => ?_) ?_ (grow b o e)
    · have e1 : b = s.heap.objs.size := List.mem_singleton.mp z
      have z1 := Heap.lt_size e
      rw [e1] at z1
      exact Nat.lt_irrefl _ z1
    · have z1 := Heap.lt_size e
      exact Nat.ne_of_lt (by rw [hz1]; exact Nat.lt_succ_of_lt z1)
end Rw.Mn
end
section
set_option Elab.async false
set_option linter.all false
set_option maxRecDepth 100000
namespace Rw
open PySem PySem.Spec PyProof.Rows L2
section
variable {X : Cx}
/-- sorted of a dict whose keys are ints, however many there are -/
theorem sorted_dict_ints (calm : X.calm = true) : CallR X (.builtin "sorted") (fun zs H Q => ∃ (d : Addr) (kv : List (Key × V)) (is : List Int), zs = [.ref d] ∧ Rd H d (.dK kv) ∧ kv.map (·.1) = is.map Sum.inl ∧ is.length ≤ 16777216 ∧
    ∀ (js : List Int) (b : Addr), js.Perm is → js.Pairwise (· ≤ ·) → H b = none → Q (.ref b) (upd H b (.lst (js.map V.int)))) := by
  intro pins s σ H zs us Q I rel ⟨d, kv, is, e0, rd, ek, hlen, post⟩
  subst e0
  obtain ⟨u0, e1, rv⟩ := vals1 rel; subst e1; cases rv
  obtain ⟨_, lo, ps, pr, dd⟩ := dk_rd I.hok rd
  obtain ⟨ep, at0⟩ := dd.dictAt
  have e2 : ps.map (·.1) = is.map Sum.inl := pr.keys.symm.trans ek
  have n0 : ps.length = is.length := by have t := congrArg List.length e2; simpa using t
  have n1 : ps.length ≤ sizeLine := by rw [n0, sizeLine_eq]; exact hlen
  refine Calls.call_function_entry kind_sorted plain_sorted entry_sorted (args_sorted1 _) ?_
  unfold Builtin.«sorted»
  refine wpAny_bind (m := checkCount "sorted" 1 1 _) (wpAny_pure (wpAny_bind (PySem.W.kdu_collect (A := X.A.in1) (PySem.W.kdl_dict (knd := mixKind X.prog X.w) (kvs := ps) (ep := ep) lo) (I.ok.hd calm) at0 n1 fun hp tk got kept hg => ?_)))
  have n2 : got.toList.length = is.length := by rw [Array.length_toList, hg.1, n0]
  have allI : IntsAre got.toList is := by
    refine ints_each n2 fun j v ev => ?_
    obtain ⟨key, x, g1, g2⟩ := hg.2 j v (by rw [← Array.getElem?_toList]; exact ev)
    have g3 : (is.map Sum.inl)[j]? = some key := by rw [← e2, List.getElem?_map, g1]; rfl
    rw [List.getElem?_map] at g3
    match e4 : is[j]? with
    | none => rw [e4] at g3; cases g3
    | some y =>
      rw [e4] at g3
      obtain rfl : Sum.inl y = key := Option.some.inj g3
      rcases keyIs_shape (show keyIs (Sum.inl y) v = true from g2) with ⟨_, t, q1, q2⟩ | ⟨_, _, q1, _⟩ <;> cases q1
      exact ⟨y, t, rfl, q2⟩
  have J : L2.Inv X pins σ H { s with heap := hp, toks := tk } := I.kept kept
  have n3 : got.toList.length ≤ sizeLine := by rw [n2, sizeLine_eq]; exact hlen
  refine wpAny_bind (wpAny_newList ?_ n3)
  have obj : (hp.push (seqObj "list" got.toList.toArray 0)).get? hp.objs.size = some (seqObj "list" got.toList.toArray 0) := Heap.get?_push_size _ rfl
  refine wpAny_bind (wpAny_holding (wpAny_call_entry slot_list_sort ⟨_, obj, rfl⟩ entry_list_sort (SrtO.list_sort_ord (s := { s with heap := hp.push (seqObj "list" got.toList.toArray 0), toks := tk }) SrtO.swo_int obj n3 (fun two => SrtO.ints_sortable allI two) fun out s1 s2 => ⟨_, rfl, ?_⟩) (args_list_sort _)))
  obtain ⟨r1, r2, r3⟩ := SrtO.ints_out allI s1 s2
  obtain ⟨ep2, at2⟩ := sortedHeap_at (vs := got.toList) (out := out.toArray) obj
  have n4 : ((out.map SrtO.iv).map V.int).length ≤ sizeLine := by rw [List.length_map, r2.length_eq, sizeLine_eq]; exact hlen
  refine wpAny_pure ⟨_, rfl, .ref hp.objs.size, upd H hp.objs.size (.lst ((out.map SrtO.iv).map V.int)), J.laid (t' := tk) (fun b o eo => ?_) (Nat.le_refl _) (show ObjOk X.prog X.w _ _ _ (.lst ((out.map SrtO.iv).map V.int)) from ⟨n4, out, ep2, vals_of_ints r1, at2⟩), rfl, post _ _ r2 r3 (J.hok.fresh (Nat.le_refl _))⟩
  have lt := Heap.lt_size eo
  rw [sortedHeap_old (Nat.ne_of_lt lt) (by rw [size_push']; exact Nat.lt_succ_of_lt lt)]
  exact Heap.get?_push_of_some _ eo
end
end Rw
end
section
set_option Elab.async false
set_option linter.all false
set_option maxRecDepth 100000
namespace Rw
open PySem PySem.Spec PyProof.Rows L2
section
variable {K : PySem.W.Frag} {ca : Nat → Addr} {p : List Addr} {F G H H' : Hp} {M : Ar}
/-- a new thing of the frame -/
theorem SR.addG (s : SR K ca p F G M H) {a : Addr} {o : HO} (n : H a = none) : SR K ca p F (upd G a o) M (upd H a o) := by
  obtain ⟨n1, n2, n3⟩ := s.ne n
  have s1 := s.grow (upd_grow (o := o) n)
  refine ⟨s1.len, s1.nd, s1.fr, fun b u e => ?_, fun b => ?_, s1.pf, fun b hb => ?_, s1.ob⟩
  · by_cases h : b = a
    · subst h; rw [upd_same] at e ⊢; exact e
    · rw [upd_ne h] at e; exact s1.gr b u e
  · by_cases h : b = a
    · subst h; exact .inl n2
    · rw [upd_ne h]; exact s.fg b
  · have : b ≠ a := fun e => n1 (e ▸ hb)
    rw [upd_ne this]; exact s.pg b hb
theorem SR.lessG {G' : Hp} (s : SR K ca p F G M H) (h : Sub G' G) : SR K ca p F G' M H := by
  refine ⟨s.len, s.nd, s.fr, h.trans s.gr, fun a => ?_, s.pf, fun a ha => ?_, s.ob⟩
  · rcases s.fg a with e | e
    · exact .inl e
    · right
      cases q : G' a with
      | none => rfl
      | some u => rw [h a u q] at e; cases e
  · cases q : G' a with
    | none => rfl
    | some u =>
      have := h a u q
      rw [s.pg a ha] at this
      cases this
theorem sub_upd {G : Hp} {a : Addr} {o : HO} (n : G a = none) : Sub G (upd G a o) := fun b u e => by rw [upd_ne (ne_of_none e n)]; exact e
theorem objOf_ok {d : D} {v : V} {c : Nat} {fs : List (Str × D)} (s : SR K ca p F G M H) (r : RD K ca p F d v) (e : objOf M c d = some fs) :
    ∃ i a dx vs, d = .ref i ∧ p[i]? = some a ∧ v = .ref a ∧ M[i]? = some (.obj c fs) ∧ H a = some (.ins (ca c) dx vs) ∧ Paired (fun (x : Str × D) (y : Str × V) => x.1 = y.1 ∧ RD K ca p F x.2 y.2) fs vs := by
  cases d with
  | ref i =>
    obtain ⟨a, h1, h2⟩ := r
    unfold objOf at e
    cases q : M[i]? with
    | none => simp only [q] at e; cases e
    | some o =>
      simp only [q] at e
      cases o with
      | obj k m =>
        by_cases hk : k = c
        · subst hk
          simp only [decide_true] at e
          have e2 : m = fs := Option.some.inj e
          subst e2
          obtain ⟨dx, vs, k1, k2⟩ := s.ob i a _ h1 q
          exact ⟨i, a, dx, vs, rfl, h1, h2, q, k1, k2⟩
        · simp only [decide_eq_false hk] at e; cases e
      | _ => simp only at e; cases e
  | _ => cases e
theorem look_fld : ∀ {fs : List (Str × D)} {vs : List (Str × V)} {f : Str}, Paired (fun (x : Str × D) (y : Str × V) => x.1 = y.1 ∧ RD K ca p F x.2 y.2) fs vs →
    (∀ d, fs.lookup f = some d → ∃ v, vs.lookup f = some v ∧ RD K ca p F d v) ∧ (fs.lookup f = none → vs.lookup f = none)
  | _, _, _, .nil => ⟨fun d h => (by cases h), fun _ => rfl⟩
  | _, _, f, .cons (a := x) (b := y) (l₁ := r) (l₂ := w) h t => by
    obtain ⟨h1, h2⟩ := look_fld (f := f) t
    obtain ⟨x1, x2⟩ := x
    obtain ⟨y1, y2⟩ := y
    have e1 : x1 = y1 := h.1
    subst e1
    cases q : (f == x1) with
    | true =>
      have a1 : ∀ {α : Type} (z : α) (l : List (Str × α)), List.lookup f ((x1, z) :: l) = some z := fun z l => by simp only [List.lookup, q]
      rw [a1, a1]
      exact ⟨fun d e => ⟨y2, rfl, by have := Option.some.inj e; subst this; exact h.2⟩, fun e => by cases e⟩
    | false =>
      have a1 : ∀ {α : Type} (z : α) (l : List (Str × α)), List.lookup f ((x1, z) :: l) = List.lookup f l := fun z l => by simp only [List.lookup, q]
      rw [a1, a1]
      exact ⟨h1, h2⟩
theorem put_fld {f : Str} {d : D} {v : V} (r : RD K ca p F d v) : ∀ {fs : List (Str × D)} {vs : List (Str × V)}, Paired (fun (x : Str × D) (y : Str × V) => x.1 = y.1 ∧ RD K ca p F x.2 y.2) fs vs →
    Paired (fun (x : Str × D) (y : Str × V) => x.1 = y.1 ∧ RD K ca p F x.2 y.2) (putD f d fs) (putF f v vs)
  | _, _, .nil => .cons ⟨rfl, r⟩ .nil
  | _, _, .cons (a := x) (b := y) (l₁ := l) (l₂ := w) h t => by
    obtain ⟨x1, x2⟩ := x
    obtain ⟨y1, y2⟩ := y
    have e1 : x1 = y1 := h.1
    subst e1
    unfold putD putF
    by_cases q : x1 = f
    · rw [if_pos q, if_pos q]; exact .cons ⟨rfl, r⟩ t
    · rw [if_neg q, if_neg q]; exact .cons h (put_fld r t)
theorem paired_len {α β : Type} {R : α → β → Prop} : ∀ {l : List α} {m : List β}, Paired R l m → l.length = m.length
  | _, _, .nil => rfl
  | _, _, .cons _ t => by rw [List.length_cons, List.length_cons, paired_len t]
end
section
variable {X : Cx} {ca : Nat → Addr}
def rSl (K : PySem.W.Frag) (ca : Nat → Addr) (mu : Bool) : V → Option Int → Option Int → Hp → VK → Prop := fun x lo hi H Q => ∃ p F G M d W, SR K ca p F G M H ∧ RD K ca p F d x ∧ Tk K ca (RD K ca) W G p F (slcV mu d lo hi M) Q
theorem sl_V (mu : Bool) : SlR X (rSl X.K ca mu) := by
  have key : ∀ {x lo hi H Q}, rSl X.K ca mu x lo hi H Q → (rSlL X.K x lo hi H Q ∨ rSlT X.K x lo hi H Q) ∨ rSlS x lo hi H Q := fun {x lo hi H Q} h => by
    obtain ⟨p, F, G, M, d, W, sr, rd, h⟩ := h
    unfold slcV at h
    cases q0 : stOf d with
    | some z =>
      simp only [q0] at h
      have ex := stOf_ok rd q0
      obtain ⟨z1, z2⟩ := Tk.okIf h
      have z3 := of_decide_eq_true z1
      rw [line_eq] at z3
      exact .inr ⟨z, ex, z3, z2.ok sr rfl⟩
    | none =>
      simp only [q0] at h
      left
      unfold slcQ at h
      cases q : lsOf M d with
      | some l =>
        simp only [q] at h
        obtain ⟨a, vs, e, k1, k2⟩ := lsOf_ok sr rd q
        exact .inl ⟨a, vs, e, SqL.of k1, fun b hb => mkL_ok sr k2.cut h hb⟩
      | none =>
        simp only [q] at h
        cases q2 : tpOf d with
        | some l =>
          simp only [q2] at h
          obtain ⟨a, vs, e, k1, k2⟩ := tpOf_ok sr rd q2
          obtain ⟨z1, z2⟩ := Tk.okIf h
          refine .inr ⟨a, vs, e, sqT_sub sr.fr k1, fun z => ?_, fun b hb => mkT_ok sr k2.cut z2 hb⟩
          rw [← k2.length] at z
          simp [z.1, z.2] at z1
        | none => simp only [q2] at h; exact h.elim
  intro pins s σ H x v vl vu lo hi sl Q I rx hs pl pu h
  exact (SlR.or (SlR.or sl_list sl_tup) sl_str) pins s σ H x v vl vu lo hi sl Q I rx hs pl pu (key h)
def rC (K : PySem.W.Frag) (ca : Nat → Addr) (f : BiK) : List V → Hp → VK → Prop := fun xs H Q => ∃ p F G M ds W, SR K ca p F G M H ∧ RDs K ca p F ds xs ∧ Tk K ca (RD K ca) W G p F (biV f ds M) Q
theorem one_of {K : PySem.W.Frag} {p : List Addr} {F : Hp} {d : D} {xs : List V} (h : RDs K ca p F [d] xs) : ∃ v, xs = [v] ∧ RD K ca p F d v := by
  obtain ⟨v, w, e, h1, h2⟩ := h
  cases h2
  exact ⟨v, e, h1⟩
theorem two_of {K : PySem.W.Frag} {p : List Addr} {F : Hp} {d e : D} {xs : List V} (h : RDs K ca p F [d, e] xs) : ∃ v w, xs = [v, w] ∧ RD K ca p F d v ∧ RD K ca p F e w := by
  obtain ⟨v, w, e, h1, h2⟩ := h
  obtain ⟨w, rfl, h3⟩ := one_of h2
  exact ⟨v, w, e, h1, h3⟩
theorem c_len : CallR X (.builtin "len") (rC X.K ca .len) := by
  intro pins s σ H xs us Q I r h
  obtain ⟨p, F, G, M, ds, W, sr, rd, h⟩ := h
  unfold biV at h
  split at h <;> try exact h.elim
  all_goals try contradiction
  rename_i d heq
  unfold lenV at h
  obtain ⟨v, rfl, k1⟩ := one_of rd
  cases q0 : stOf d with
  | some z =>
    simp only [q0] at h
    have ex := stOf_ok k1 q0
    obtain ⟨z1, z2⟩ := Tk.okIf h
    have z3 := of_decide_eq_true z1
    rw [line_eq] at z3
    exact call_len_str pins s σ H _ us Q I r ⟨z, by rw [ex], z3, z2.ok sr rfl⟩
  | none =>
    simp only [q0] at h
    cases q : sqOf M d with
    | some l =>
      simp only [q] at h
      obtain ⟨a, vs, rfl, h1, h2⟩ := sqOf_ok sr k1 q
      refine call_len_seq pins s σ H _ us Q I r ⟨a, vs, rfl, h1, ?_⟩
      rw [← h2.length]
      exact h.ok sr rfl
    | none =>
      simp only [q] at h
      split at h
      · rename_i i
        cases q1 : M[i]? with
        | none => simp only [q1] at h; exact h.elim
        | some o =>
          simp only [q1] at h
          cases o with
          | dK l =>
            simp only at h
            obtain ⟨a, h1, rfl⟩ := k1
            obtain ⟨kvs, k2, k3⟩ := sr.ob i a _ h1 q1
            refine call_lenD pins s σ H _ us Q I r ⟨a, kvs, rfl, k2, ?_⟩
            rw [← pr_len k3]
            exact h.ok sr rfl
          | _ => exact h.elim
      · exact h.elim
theorem inOf_ok {K : PySem.W.Frag} {p : List Addr} {F : Hp} {d : D} {v : V} {i : Int} (r : RD K ca p F d v) (e : inOf d = some i) : v = .int i := by
  cases d with
  | t y =>
    cases y with
    | int z => have e1 : z = i := Option.some.inj e; subst e1; exact r
    | _ => cases e
  | _ => cases e
theorem ins_ok {K : PySem.W.Frag} {p : List Addr} {F : Hp} : ∀ {l : List D} {vs : List V} {is : List Int}, RDs K ca p F l vs → mapO inOf l = some is → vs = is.map V.int
  | [], vs, is, h, e => by
    have e1 : is = [] := (Option.some.inj (show (some [] : Option (List Int)) = some is from e)).symm
    subst e1; exact h
  | d :: l, vs, is, ⟨v, w, e0, h1, h2⟩, e => by
    obtain ⟨t, m, q, q2, e2⟩ := mapO_cons e
    subst e2
    rw [e0, inOf_ok h1 q, ins_ok h2 q2]
    rfl
theorem sts_ok {K : PySem.W.Frag} {p : List Addr} {F : Hp} : ∀ {l : List D} {vs : List V} {is : List Str}, RDs K ca p F l vs → mapO stOf l = some is → vs = is.map V.str
  | [], vs, is, h, e => by
    have e1 : is = [] := (Option.some.inj (show (some [] : Option (List Str)) = some is from e)).symm
    subst e1; exact h
  | d :: l, vs, is, ⟨v, w, e0, h1, h2⟩, e => by
    obtain ⟨t, m, q, q2, e2⟩ := mapO_cons e
    subst e2
    rw [e0, stOf_ok h1 q, sts_ok h2 q2]
    rfl
theorem c_sum (hc : X.calm = true) : CallR X (.builtin "sum") (rC X.K ca .sum) := by
  intro pins s σ H xs us Q I r h
  obtain ⟨p, F, G, M, ds, W, sr, rd, h⟩ := h
  unfold biV at h
  split at h <;> try exact h.elim
  all_goals try contradiction
  rename_i d heq
  obtain ⟨v, rfl, k1⟩ := one_of rd
  cases q : lsOf M d with
  | none => simp only [q, Option.bind_none] at h; exact h.elim
  | some l =>
    simp only [q, Option.bind_some] at h
    cases q2 : mapO inOf l with
    | none => simp only [q2] at h; exact h.elim
    | some is =>
      simp only [q2] at h
      obtain ⟨a, vs, rfl, h1, h2⟩ := lsOf_ok sr k1 q
      have e := ins_ok h2 q2
      subst e
      exact cr_sum hc pins s σ H _ us Q I r ⟨a, is, rfl, SqL.of h1, h.ok sr rfl⟩
theorem pairs_ok {K : PySem.W.Frag} {p : List Addr} {F G H : Hp} {M : Ar} (sr : SR K ca p F G M H) : ∀ {l : List D} {vs : List V} {m : List (Key × D)}, RDs K ca p F l vs → mapO (pairD M) l = some m → ∃ (ps : List Addr) (kvs : List (Key × V)), vs = ps.map V.ref ∧ Paired (fun q kv => SqT K H q [kV kv.1, kv.2]) ps kvs ∧ PrD K ca p F m kvs
  | [], vs, m, h, e => by
    have e1 : m = [] := (Option.some.inj (show (some [] : Option (List (Key × D))) = some m from e)).symm
    subst e1; exact ⟨[], [], h, .nil, .nil⟩
  | d :: l, vs, m, ⟨v, w, e0, h1, h2⟩, e => by
    obtain ⟨t, m', q, q2, e2⟩ := mapO_cons e
    subst e2
    obtain ⟨ps, kvs, e3, e4, e5⟩ := pairs_ok sr h2 q2
    unfold pairD at q
    split at q
    · rename_i a b q3
      cases q4 : keyD a with
      | none => rw [q4] at q; cases q
      | some k =>
        rw [q4] at q
        have e6 : (k, b) = t := Option.some.inj q
        subst e6
        obtain ⟨aa, us, e7, z1, z2⟩ := tpOf_ok sr h1 q3
        obtain ⟨x, y, e8, r1, r2⟩ := two_of z2
        subst e8
        have e9 := keyD_ok r1 q4
        subst e9
        refine ⟨aa :: ps, (k, y) :: kvs, by rw [e0, e7, e3]; rfl, .cons (sqT_sub sr.fr z1) e4, .cons ⟨rfl, r2⟩ e5⟩
    · cases q
theorem c_dictP (hc : X.calm = true) (mu : Bool) : CallR X (.type "dict") (rC X.K ca (.dictP mu)) := by
  intro pins s σ H xs us Q I r h
  obtain ⟨p, F, G, M, ds, W, sr, rd, h⟩ := h
  unfold biV at h
  split at h <;> try exact h.elim
  all_goals try contradiction
  rename_i mu' d heq
  cases heq
  obtain ⟨v, rfl, k1⟩ := one_of rd
  cases q : lsOf M d with
  | none => simp only [q, Option.bind_none] at h; exact h.elim
  | some l =>
    simp only [q, Option.bind_some] at h
    cases q2 : mapO (pairD M) l with
    | none => simp only [q2] at h; exact h.elim
    | some m =>
      simp only [q2] at h
      obtain ⟨a, vs, rfl, h1, h2⟩ := lsOf_ok sr k1 q
      obtain ⟨ps, kvs, e, k2, k3⟩ := pairs_ok sr h2 q2
      subst e
      exact call_dictP hc pins s σ H _ us Q I r ⟨a, ps, kvs, rfl, SqL.of h1, k2, fun b hb => mkD_ok sr (merge_ok k3 .nil) h hb⟩
theorem c_str : CallR X (.type "str") (rC X.K ca .str) := by
  intro pins s σ H xs us Q I r h
  obtain ⟨p, F, G, M, ds, W, sr, rd, h⟩ := h
  unfold biV at h
  split at h <;> try exact h.elim
  all_goals try contradiction
  obtain ⟨v, rfl, k1⟩ := one_of rd
  have e : v = .int _ := k1
  subst e
  obtain ⟨z1, z2⟩ := Tk.okIf h
  exact call_str_int pins s σ H _ us Q I r ⟨_, rfl, of_decide_eq_true z1, z2.ok sr rfl⟩
theorem itOf_ok {K : PySem.W.Frag} {p : List Addr} {F G H : Hp} {M : Ar} (sr : SR K ca p F G M H) {d : D} {v : V} {ns : List Int} (r : RD K ca p F d v) (e : itOf d = some ns) : ∃ a, v = .ref a ∧ SqT K H a (ns.map V.int) := by
  unfold itOf at e
  cases q : tpOf d with
  | none => rw [q] at e; cases e
  | some l =>
    rw [q] at e
    obtain ⟨a, vs, e1, h1, h2⟩ := tpOf_ok sr r q
    have e2 := ins_ok h2 e
    subst e2
    exact ⟨a, e1, sqT_sub sr.fr h1⟩
theorem its_ok {K : PySem.W.Frag} {p : List Addr} {F G H : Hp} {M : Ar} (sr : SR K ca p F G M H) : ∀ {l : List D} {vs : List V} {ks : List (List Int)}, RDs K ca p F l vs → mapO itOf l = some ks → ∃ ps : List (Addr × List Int), vs = ps.map (fun q => V.ref q.1) ∧ ks = ps.map (·.2) ∧ ∀ q ∈ ps, SqT K H q.1 (q.2.map V.int)
  | [], vs, ks, h, e => by
    have e1 : ks = [] := (Option.some.inj (show (some [] : Option (List (List Int))) = some ks from e)).symm
    subst e1; exact ⟨[], h, rfl, fun _ h => nomatch h⟩
  | d :: l, vs, ks, ⟨v, w, e0, h1, h2⟩, e => by
    obtain ⟨t, m, q, q2, e2⟩ := mapO_cons e
    subst e2
    obtain ⟨ps, a1, a2, a3⟩ := its_ok sr h2 q2
    obtain ⟨a, b1, b2⟩ := itOf_ok sr h1 q
    refine ⟨(a, t) :: ps, by rw [e0, b1, a1]; rfl, by rw [a2]; rfl, fun x hx => ?_⟩
    rcases List.mem_cons.mp hx with rfl | hx
    · exact b2
    · exact a3 x hx
theorem bestI_eq (ps : List (Addr × List Int)) : ∀ k, bestI (ps.map (·.2)) k = argBest (Mn.bt ps) k
  | 0 => rfl
  | k + 1 => by
    have ih := bestI_eq ps k
    unfold bestI argBest
    rw [ih]
    have hk : ∀ i, ((ps.map (·.2))[i]?).getD [] = Mn.keyAt ps i := fun i => by unfold Mn.keyAt; rw [List.getElem?_map]
    rw [hk, hk]
    rfl
theorem vals_refs : ∀ {ps : List (Addr × List Int)} {us : List Value}, Vals (ps.map fun q => V.ref q.1) us → us = ps.map fun q => Value.ref q.1
  | [], _, h => by cases h; rfl
  | q :: ps, _, h => by
    cases h with
    | cons r t =>
      have e : _ = Value.ref q.1 := r
      rw [e, vals_refs t]
      rfl
theorem c_minP (hc : X.calm = true) (hu : X.A.units + 65 < cLine) : CallR X (.builtin "min") (rC X.K ca .minP) := by
  intro pins s σ H xs us Q I r h
  obtain ⟨p, F, G, M, ds, W, sr, rd, h⟩ := h
  unfold biV at h
  split at h <;> try exact h.elim
  all_goals try contradiction
  rename_i d heq
  obtain ⟨v, rfl, k1⟩ := one_of rd
  unfold minV at h
  cases q : lsOf M d with
  | none => simp only [q] at h; exact h.elim
  | some l =>
    simp only [q] at h
    obtain ⟨a, vs, rfl, h1, h2⟩ := lsOf_ok sr k1 q
    cases q2 : mapO itOf l with
    | none => simp only [q2] at h; exact h.elim
    | some ks =>
      simp only [q2] at h
      obtain ⟨ps, e1, e2, e3⟩ := its_ok sr h2 q2
      have len : l.length = ps.length := by rw [h2.length, e1, List.length_map]
      split at h
      · exact h.elim
      · rename_i hne
        have hn : 0 < ps.length := by
          rw [← len]
          cases l with
          | nil => exact absurd rfl (hne)
          | cons _ _ => simp
        cases q3 : l[bestI ks (l.length - 1)]? with
        | none => simp only [q3] at h; exact h.elim
        | some dd =>
          simp only [q3] at h
          rw [Vals.ref1 r]
          obtain ⟨its, rv, pl, _⟩ := I.list (SqL.of (K := X.K) h1)
          rw [e1] at rv
          have e4 := vals_refs rv
          subst e4
          refine Mn.call_minT (I.ok.hd hc) (by show X.A.units + 1 < cLine; omega) pl.isList (fun z hz => ?_) hn fun w h' tk P1 k1 => ?_
          · obtain ⟨its2, r2, p2, _⟩ := I.tuple (e3 z hz)
            exact ⟨its2.toArray, p2, intsAre_of r2⟩
          · obtain ⟨z, z1, rfl⟩ := P1
            have ix : bestI ks (l.length - 1) = argBest (Mn.bt ps) (ps.length - 1) := by rw [e2, bestI_eq, len]
            rw [ix] at q3
            obtain ⟨vv, u1, u2⟩ := h2.get q3
            rw [e1, List.getElem?_map, z1] at u1
            cases u1
            exact ⟨.ref z.1, H, I.kept (t' := tk) k1, rfl, h.ok sr u2⟩
theorem insI_perm (x : Int) : ∀ l : List Int, (insI x l).Perm (x :: l)
  | [] => List.Perm.refl _
  | y :: r => by
    unfold insI
    split
    · exact List.Perm.refl _
    · exact ((insI_perm x r).cons y).trans (List.Perm.swap x y r)
theorem sortI_perm : ∀ l : List Int, (sortI l).Perm l
  | [] => List.Perm.refl _
  | x :: r => (insI_perm x _).trans ((sortI_perm r).cons x)
theorem insI_sorted (x : Int) : ∀ l : List Int, l.Pairwise (· ≤ ·) → (insI x l).Pairwise (· ≤ ·)
  | [], _ => by simp [insI]
  | y :: r, h => by
    unfold insI
    obtain ⟨h1, h2⟩ := List.pairwise_cons.mp h
    split
    · rename_i c
      refine List.pairwise_cons.mpr ⟨fun z hz => ?_, h⟩
      rcases List.mem_cons.mp hz with rfl | hz
      · exact c
      · exact Int.le_trans c (h1 z hz)
    · rename_i c
      refine List.pairwise_cons.mpr ⟨fun z hz => ?_, insI_sorted x r h2⟩
      rcases List.mem_cons.mp ((insI_perm x r).mem_iff.mp hz) with rfl | hz
      · omega
      · exact h1 z hz
theorem sortI_sorted : ∀ l : List Int, (sortI l).Pairwise (· ≤ ·)
  | [] => List.Pairwise.nil
  | x :: r => insI_sorted x _ (sortI_sorted r)
theorem sorted_uniq : ∀ {l m : List Int}, l.Perm m → l.Pairwise (· ≤ ·) → m.Pairwise (· ≤ ·) → l = m
  | [], m, h, _, _ => (List.Perm.nil_eq h)
  | x :: l, [], h, _, _ => absurd h.length_eq (by simp)
  | x :: l, y :: m, h, h1, h2 => by
    obtain ⟨a1, a2⟩ := List.pairwise_cons.mp h1
    obtain ⟨b1, b2⟩ := List.pairwise_cons.mp h2
    have hx : x ∈ y :: m := h.mem_iff.mp List.mem_cons_self
    have hy : y ∈ x :: l := h.mem_iff.mpr List.mem_cons_self
    have e : x = y := by
      rcases List.mem_cons.mp hx with hx | hx
      · exact hx
      · rcases List.mem_cons.mp hy with hy | hy
        · exact hy.symm
        · have := a1 y hy
          have := b1 x hx
          omega
    subst e
    rw [sorted_uniq h.cons_inv a2 b2]
theorem keysI_ok {K : PySem.W.Frag} {p : List Addr} {F : Hp} : ∀ {l : List (Key × D)} {kvs : List (Key × V)} {is : List Int}, PrD K ca p F l kvs → mapO keyI (l.map (·.1)) = some is → kvs.map (·.1) = is.map Sum.inl
  | _, _, is, .nil, e => by
    have e1 : is = [] := (Option.some.inj (show (some [] : Option (List Int)) = some is from e)).symm
    subst e1; rfl
  | _, _, is, .cons (a := x) (b := y) h t, e => by
    obtain ⟨i, m, q, q2, e2⟩ := mapO_cons e
    subst e2
    rw [List.map_cons, List.map_cons, keysI_ok t q2, ← h.1]
    unfold keyI at q
    split at q
    · rename_i z e3
      cases q
      rw [show x.1 = Sum.inl _ from e3]
    · cases q
theorem ints_RTs {K : PySem.W.Frag} {F : Hp} : ∀ (l : List Int), RTs K ca F (l.map T.int) (l.map V.int)
  | [] => rfl
  | i :: l => ⟨.int i, l.map V.int, rfl, rfl, ints_RTs l⟩
theorem insS_perm (x : Str) : ∀ l : List Str, (insS x l).Perm (x :: l)
  | [] => List.Perm.refl _
  | y :: r => by
    unfold insS
    split
    · exact ((insS_perm x r).cons y).trans (List.Perm.swap x y r)
    · exact List.Perm.refl _
theorem sortS_perm : ∀ l : List Str, (sortS l).Perm l
  | [] => List.Perm.refl _
  | x :: r => (insS_perm x _).trans ((sortS_perm r).cons x)
abbrev leS (a b : Str) : Prop := ¬ (b.cps.toList < a.cps.toList)
theorem leS_trans {a b c : Str} (h : leS a b) (k : leS b c) : leS a c := List.le_trans (l₁ := a.cps.toList) (l₂ := b.cps.toList) (l₃ := c.cps.toList) h k
theorem leS_anti {a b : Str} (h : leS a b) (k : leS b a) : a = b := by
  have e : a.cps.toList = b.cps.toList := List.le_antisymm h k
  cases a
  cases b
  congr 1
  exact Array.toList_inj.mp e
theorem leS_of_lt {a b : Str} (h : a.cps.toList < b.cps.toList) : leS a b := List.le_of_lt h
theorem insS_sorted (x : Str) : ∀ l : List Str, l.Pairwise leS → (insS x l).Pairwise leS
  | [], _ => by simp [insS]
  | y :: r, h => by
    unfold insS
    obtain ⟨h1, h2⟩ := List.pairwise_cons.mp h
    split
    · rename_i c
      refine List.pairwise_cons.mpr ⟨fun z hz => ?_, insS_sorted x r h2⟩
      rcases List.mem_cons.mp ((insS_perm x r).mem_iff.mp hz) with rfl | hz
      · exact leS_of_lt c
      · exact h1 z hz
    · rename_i c
      refine List.pairwise_cons.mpr ⟨fun z hz => ?_, h⟩
      rcases List.mem_cons.mp hz with rfl | hz
      · exact c
      · exact leS_trans c (h1 z hz)
theorem sortS_sorted : ∀ l : List Str, (sortS l).Pairwise leS
  | [] => List.Pairwise.nil
  | x :: r => insS_sorted x _ (sortS_sorted r)
theorem sortedS_pw : ∀ l : List Str, PyProof.Rows.sortedS l = true → l.Pairwise leS
  | [], _ => List.Pairwise.nil
  | [x], _ => by simp
  | x :: y :: r, h => by
    have h' : (!Spec.ltCps y.cps.toList x.cps.toList && PyProof.Rows.risingS y r) = true := h
    simp only [Bool.and_eq_true, Bool.not_eq_true'] at h'
    have ih := sortedS_pw (y :: r) h'.2
    have hxy : leS x y := by
      have := h'.1
      rw [PyProof.Rows.ltCps_eq] at this
      exact of_decide_eq_false this
    refine List.pairwise_cons.mpr ⟨fun z hz => ?_, ih⟩
    rcases List.mem_cons.mp hz with rfl | hz
    · exact hxy
    · exact leS_trans hxy ((List.pairwise_cons.mp ih).1 z hz)
theorem sortedS_uniq : ∀ {l m : List Str}, l.Perm m → l.Pairwise leS → m.Pairwise leS → l = m
  | [], m, h, _, _ => (List.Perm.nil_eq h)
  | x :: l, [], h, _, _ => absurd h.length_eq (by simp)
  | x :: l, y :: m, h, h1, h2 => by
    obtain ⟨a1, a2⟩ := List.pairwise_cons.mp h1
    obtain ⟨b1, b2⟩ := List.pairwise_cons.mp h2
    have hx : x ∈ y :: m := h.mem_iff.mp List.mem_cons_self
    have hy : y ∈ x :: l := h.mem_iff.mpr List.mem_cons_self
    have e : x = y := by
      rcases List.mem_cons.mp hx with hx | hx
      · exact hx
      · rcases List.mem_cons.mp hy with hy | hy
        · exact hy.symm
        · exact leS_anti (a1 y hy) (b1 x hx)
    subst e
    rw [sortedS_uniq h.cons_inv a2 b2]
theorem keysS_ok {K : PySem.W.Frag} {p : List Addr} {F : Hp} : ∀ {l : List (Key × D)} {kvs : List (Key × V)} {ks : List Str}, PrD K ca p F l kvs → mapO keyS (l.map (·.1)) = some ks → kvs.map (·.1) = ks.map Sum.inr
  | _, _, ks, .nil, e => by
    have e1 : ks = [] := (Option.some.inj (show (some [] : Option (List Str)) = some ks from e)).symm
    subst e1; rfl
  | _, _, ks, .cons (a := x) (b := y) h t, e => by
    obtain ⟨i, m, q, q2, e2⟩ := mapO_cons e
    subst e2
    rw [List.map_cons, List.map_cons, keysS_ok t q2, ← h.1]
    unfold keyS at q
    split at q
    · rename_i z e3
      cases q
      rw [show x.1 = Sum.inr _ from e3]
    · cases q
theorem strs_RTs {K : PySem.W.Frag} {F : Hp} : ∀ (l : List Str), RTs K ca F (l.map T.str) (l.map V.str)
  | [] => rfl
  | i :: l => ⟨.str i, l.map V.str, rfl, rfl, strs_RTs l⟩
theorem c_sortD (hc : X.calm = true) : CallR X (.builtin "sorted") (rC X.K ca .sortD) := by
  intro pins s σ H xs us Q I r h
  obtain ⟨p, F, G, M, ds, W, sr, rd, h⟩ := h
  unfold biV at h
  split at h <;> try exact h.elim
  all_goals try contradiction
  rename_i d heq
  obtain ⟨v, rfl, k1⟩ := one_of rd
  unfold sortDV at h
  cases q : dkOf M d with
  | none => simp only [q] at h; exact h.elim
  | some l =>
    simp only [q] at h
    obtain ⟨a, kvs, rfl, h1, h2⟩ := dkOf_ok sr k1 q
    obtain ⟨z1, z2⟩ := Tk.okIf h
    have z3 := of_decide_eq_true z1
    cases q2 : mapO keyI (l.map (·.1)) with
    | none =>
      simp only [q2] at z2
      cases q3 : mapO keyS (l.map (·.1)) with
      | none => simp only [q3] at z2; exact z2.elim
      | some ks =>
        simp only [q3] at z2
        obtain ⟨y1, y2⟩ := Tk.okIf z2
        have e := keysS_ok h2 q3
        refine call_sortedD hc pins s σ H _ us Q I r ⟨a, kvs, ks, rfl, h1, e, of_decide_eq_true y1, fun ys b p1 p2 hb => ?_⟩
        have ey : ys = sortS ks := sortedS_uniq (p1.trans (sortS_perm ks).symm) (sortedS_pw ys p2) (sortS_sorted ks)
        subst ey
        obtain ⟨w1, w2⟩ := sr.newF (o := .lst ((sortS ks).map V.str)) hb
        exact y2 _ _ _ _ (Pre.refl _) w1 w2 ⟨b, _, rfl, upd_same, strs_RTs _⟩
    | some is =>
      simp only [q2] at z2
      have e := keysI_ok h2 q2
      have hl : is.length ≤ 16777216 := by
        have e2 := congrArg List.length e
        rw [List.length_map, List.length_map] at e2
        rw [← e2, ← pr_len h2]
        exact z3
      refine sorted_dict_ints hc pins s σ H _ us Q I r ⟨a, kvs, is, rfl, h1, e, hl, fun ys b p1 p2 hb => ?_⟩
      have ey : ys = sortI is := sorted_uniq (p1.trans (sortI_perm is).symm) p2 (sortI_sorted is)
      subst ey
      obtain ⟨n1, n2⟩ := sr.newF (o := .lst ((sortI is).map V.int)) hb
      exact z2 _ _ _ _ (Pre.refl _) n1 n2 ⟨b, _, rfl, upd_same, ints_RTs _⟩
theorem c_int : CallR X (.type "int") (rC X.K ca .int) := by
  intro pins s σ H xs us Q I r h
  obtain ⟨p, F, G, M, ds, W, sr, rd, h⟩ := h
  unfold biV at h
  split at h <;> try exact h.elim
  all_goals try contradiction
  · obtain ⟨v, rfl, k1⟩ := one_of rd
    have e : v = .str _ := k1
    subst e
    split at h
    · rename_i n q
      obtain ⟨z1, z2⟩ := Tk.okIf h
      exact call_int_str pins s σ H _ us Q I r ⟨_, n, rfl, q, of_decide_eq_true z1, z2.ok sr rfl⟩
    · exact h.elim
  · obtain ⟨v, rfl, k1⟩ := one_of rd
    have e : v = .int _ := k1
    subst e
    exact call_int1 pins s σ H _ us Q I r (.inl ⟨_, rfl, h.ok sr rfl⟩)
  · obtain ⟨v, rfl, k1⟩ := one_of rd
    have e : v = .bl _ := k1
    subst e
    exact call_int1 pins s σ H _ us Q I r (.inr ⟨_, rfl, h.ok sr rfl⟩)
theorem c_list (mu : Bool) : CallR X (.type "list") (rC X.K ca (.list mu)) := by
  intro pins s σ H xs us Q I r h
  obtain ⟨p, F, G, M, ds, W, sr, rd, h⟩ := h
  unfold biV at h
  split at h <;> try exact h.elim
  all_goals try contradiction
  rename_i mu' d heq
  cases heq
  obtain ⟨v, rfl, k1⟩ := one_of rd
  cases q : lsOf M d with
  | some l =>
    simp only [q] at h
    obtain ⟨a, vs, rfl, h1, h2⟩ := lsOf_ok sr k1 q
    exact call_list_of pins s σ H _ us Q I r ⟨a, vs, rfl, .inl (SqL.of h1), fun b hb => mkL_ok sr h2 h hb⟩
  | none =>
    simp only [q] at h
    cases q2 : tpOf d with
    | none => simp only [q2] at h; exact h.elim
    | some l =>
      simp only [q2] at h
      obtain ⟨a, vs, rfl, h1, h2⟩ := tpOf_ok sr k1 q2
      exact call_list_of pins s σ H _ us Q I r ⟨a, vs, rfl, .inr (sqT_sub sr.fr h1), fun b hb => mkL_ok sr h2 h hb⟩
theorem c_tuple : CallR X (.type "tuple") (rC X.K ca .tuple) := by
  intro pins s σ H xs us Q I r h
  obtain ⟨p, F, G, M, ds, W, sr, rd, h⟩ := h
  unfold biV at h
  split at h <;> try exact h.elim
  all_goals try contradiction
  rename_i d heq
  obtain ⟨v, rfl, k1⟩ := one_of rd
  cases q : lsOf M d with
  | some l =>
    simp only [q] at h
    obtain ⟨a, vs, rfl, h1, h2⟩ := lsOf_ok sr k1 q
    exact call_tuple_of pins s σ H _ us Q I r ⟨a, vs, rfl, .inl ⟨SqL.of h1, fun b hb => mkT_ok sr h2 h hb⟩⟩
  | none =>
    simp only [q] at h
    cases q2 : tpOf d with
    | none => simp only [q2] at h; exact h.elim
    | some l =>
      simp only [q2] at h
      obtain ⟨a, vs, rfl, h1, h2⟩ := tpOf_ok sr k1 q2
      exact call_tuple_of pins s σ H _ us Q I r ⟨a, vs, rfl, .inr ⟨sqT_sub sr.fr h1, h.ok sr k1⟩⟩
theorem c_min2 (hc : X.calm = true) : CallR X (.builtin "min") (rC X.K ca .min2) := by
  intro pins s σ H xs us Q I r h
  obtain ⟨p, F, G, M, ds, W, sr, rd, h⟩ := h
  unfold biV at h
  split at h <;> try exact h.elim
  all_goals try contradiction
  obtain ⟨v, w, rfl, k1, k2⟩ := two_of rd
  have e1 : v = .int _ := k1
  have e2 : w = .int _ := k2
  subst e1 e2
  exact call_min2 hc pins s σ H _ us Q I r ⟨_, _, rfl, h.ok sr rfl⟩
theorem c_max2 (hc : X.calm = true) : CallR X (.builtin "max") (rC X.K ca .max2) := by
  intro pins s σ H xs us Q I r h
  obtain ⟨p, F, G, M, ds, W, sr, rd, h⟩ := h
  unfold biV at h
  split at h <;> try exact h.elim
  all_goals try contradiction
  obtain ⟨v, w, rfl, k1, k2⟩ := two_of rd
  have e1 : v = .int _ := k1
  have e2 : w = .int _ := k2
  subst e1 e2
  exact call_max2 hc pins s σ H _ us Q I r ⟨_, _, rfl, h.ok sr rfl⟩
/-- a value's type -/
theorem tyD_ok {K : PySem.W.Frag} {p : List Addr} {F G H : Hp} {M : Ar} {d : D} {v : V} {t : Ty} (sr : SR K ca p F G M H) (rd : RD K ca p F d v) (e : tyD M d = some t) : TyX K H v (.type t.name) := by
  have tup : ∀ {a vs}, SqT K F a vs → TyX K H (.ref a) (.type "tuple") := fun {a vs} h => by
    rcases sqT_sub sr.fr h with (h | ⟨o, h⟩) | ⟨o, its, n, h1, h2, _⟩
    · exact .base (.tup h)
    · exact .fTuple h
    · exact .kTuple h1 h2
  cases d with
  | t x =>
    have e1 : tyT x = some t := e
    clear e
    cases x with
    | non => cases e1; cases rd; exact .base .non
    | bl b => cases e1; cases rd; exact .base (.bl b)
    | int b => cases e1; cases rd; exact .base (.int b)
    | str b => cases e1; cases rd; exact .base (.str b)
    | tup l => cases e1; obtain ⟨a, vs, h0, h1, _⟩ := rd; subst h0; exact tup h1
    | lst l => cases e1; obtain ⟨a, vs, h0, h1, _⟩ := rd; subst h0; exact .base (.lst (sr.fr _ _ h1))
    | dct ks l =>
      cases e1
      obtain ⟨a, us, h0, h1, _⟩ := rd
      subst h0
      rcases rd_sub sr.fr h1 with h | ⟨o, h⟩
      · exact .base (.dK h)
      · exact .fDict h
    | obj c fs l => cases e1
    | scr l =>
      cases e1
      obtain ⟨a, h0, h1⟩ := rd
      subst h0
      rcases sqL_sub sr.fr h1 with (h | ⟨o, h⟩) | ⟨o, its, n, h1, h2, _⟩
      · exact .base (.lst h)
      · exact .base (.frz h)
      · exact .kList h1 h2
  | tup l =>
    have e1 : Ty.tup = t := Option.some.inj e
    subst e1
    obtain ⟨a, vs, h0, h1, _⟩ := rd; subst h0; exact tup h1
  | lst l =>
    have e1 : Ty.lst = t := Option.some.inj e
    subst e1
    obtain ⟨a, vs, h0, h1, _⟩ := rd; subst h0; exact .base (.lst (sr.fr _ _ h1))
  | ref i =>
    obtain ⟨a, h1, h2⟩ := rd
    unfold tyD at e
    cases q : M[i]? with
    | none => simp only [q] at e; cases e
    | some o =>
      simp only [q] at e
      cases o with
      | lst m =>
        have e1 : Ty.lst = t := Option.some.inj e
        subst e1
        obtain ⟨vs, k1, k2⟩ := sr.ob i a _ h1 q
        subst h2
        exact .base (.lst k1)
      | dK m =>
        have e1 : Ty.dct = t := Option.some.inj e
        subst e1
        obtain ⟨vs, k1, k2⟩ := sr.ob i a _ h1 q
        subst h2
        exact .base (.dK k1)
      | _ => cases e
theorem kit_int (t : Ty) : kitB t.name "int" = some (isTy .isInt t) := by cases t <;> decide +kernel
theorem kit_bool (t : Ty) : kitB t.name "bool" = some (isTy .isBool t) := by cases t <;> decide +kernel
theorem kit_list (t : Ty) : kitB t.name "list" = some (isTy .isList t) := by cases t <;> decide +kernel
theorem kit_tuple (t : Ty) : kitB t.name "tuple" = some (match t with | .tup => true | _ => false) := by cases t <;> decide +kernel
theorem kit_str (t : Ty) : kitB t.name "str" = some (isTy .isStr t) := by cases t <;> decide +kernel
theorem kit_seq {K : PySem.W.Frag} (t : Ty) : PySem.W.kitAny K (.type t.name) [.type "tuple", .type "list"] = some (isTy .isSeq t) := by
  refine kitAny_cons (kit_ty (kit_tuple t)) (fun h => kitAny_cons (kit_ty (kit_list t)) (r := isTy .isSeq t) (fun h2 => ?_) (fun h2 => ?_)) (fun h => ?_)
  · cases t <;> first | exact kitAny_nil | (cases h; done) | (cases h2; done)
  · cases t <;> first | rfl | cases h2
  · cases t <;> first | rfl | cases h
/-- list methods -/
def rM (K : PySem.W.Frag) (ca : Nat → Addr) (m : MeK) : V → List V → Hp → VK → Prop := fun x xs H Q => ∃ p F G M d ds W, SR K ca p F G M H ∧ RD K ca p F d x ∧ RDs K ca p F ds xs ∧ Tk K ca (RD K ca) W G p F (meV m d ds M) Q
theorem meV_ref {K : PySem.W.Frag} {p : List Addr} {F G : Hp} {M : Ar} {W : XK} {m : MeK} {d : D} {ds : List D} {Q : VK} (h : Tk K ca (RD K ca) W G p F (meV m d ds M) Q) : ∃ i l, d = .ref i ∧ M[i]? = some (.lst l) := by
  unfold meV at h
  split at h
  · split at h
    · exact ⟨_, _, rfl, by assumption⟩
    · exact h.elim
  · exact h.elim
theorem m_append : MtM X "list.append" (rM X.K ca .append) := by
  intro pins s σ H x xs v us Q I rx rxs h
  obtain ⟨p, F, G, M, d, ds, W, sr, rd, rds, h⟩ := h
  obtain ⟨i, l, rfl, q⟩ := meV_ref h
  obtain ⟨a, h1, rfl⟩ := rd
  obtain ⟨vs, k1, k2⟩ := sr.ob i a _ h1 q
  unfold meV at h
  simp only [q] at h
  split at h <;> try exact h.elim
  all_goals try contradiction
  rename_i d heq
  obtain ⟨w, rfl, r1⟩ := one_of rds
  obtain ⟨z1, z2⟩ := Tk.okIf h
  have z3 := of_decide_eq_true z1
  rw [k2.length, line_eq] at z3
  refine mt_append pins s σ H _ _ v us Q I rx rxs ⟨a, vs, w, rfl, rfl, k1, z3, ?_⟩
  exact z2 _ _ _ _ (Pre.refl _) (Sub.refl _) (sr.set (m := .lst (l ++ [d])) h1 ⟨vs ++ [w], upd_same, k2.app (RDs.one r1)⟩) rfl
theorem m_pop : MtM X "list.pop" (rM X.K ca .pop) := by
  intro pins s σ H x xs v us Q I rx rxs h
  obtain ⟨p, F, G, M, d, ds, W, sr, rd, rds, h⟩ := h
  obtain ⟨i, l, rfl, q⟩ := meV_ref h
  obtain ⟨a, h1, rfl⟩ := rd
  obtain ⟨vs, k1, k2⟩ := sr.ob i a _ h1 q
  unfold meV at h
  simp only [q] at h
  split at h <;> try exact h.elim
  all_goals try contradiction
  cases q2 : l[l.length - 1]? with
  | none => simp only [q2] at h; exact h.elim
  | some e =>
    simp only [q2] at h
    have rds' : xs = [] := rds
    subst rds'
    rw [k2.length] at q2
    obtain ⟨w, e1, e2⟩ := k2.get q2
    refine mt_pop pins s σ H _ _ v us Q I rx rxs ⟨a, vs, w, rfl, rfl, k1, e1, ?_⟩
    exact h _ _ _ _ (Pre.refl _) (Sub.refl _) (sr.set (m := .lst l.dropLast) h1 ⟨vs.dropLast, upd_same, k2.dropLast⟩) e2
theorem m_extend : MtM X "list.extend" (rM X.K ca .extend) := by
  intro pins s σ H x xs v us Q I rx rxs h
  obtain ⟨p, F, G, M, d, ds, W, sr, rd, rds, h⟩ := h
  obtain ⟨i, l, rfl, q⟩ := meV_ref h
  obtain ⟨a, h1, rfl⟩ := rd
  obtain ⟨vs, k1, k2⟩ := sr.ob i a _ h1 q
  unfold meV at h
  simp only [q] at h
  split at h <;> try exact h.elim
  all_goals try contradiction
  rename_i d heq
  obtain ⟨w, rfl, r1⟩ := one_of rds
  split at h
  · exact h.elim
  · cases q2 : lsOf M d with
    | none => simp only [q2] at h; exact h.elim
    | some m =>
      simp only [q2] at h
      obtain ⟨b, ws, rfl, k3, k4⟩ := lsOf_ok sr r1 q2
      obtain ⟨z1, z2⟩ := Tk.okIf h
      have z3 := of_decide_eq_true z1
      rw [k2.length, k4.length, line_eq] at z3
      refine mt_extend pins s σ H _ _ v us Q I rx rxs ⟨a, b, vs, ws, rfl, rfl, k1, k3, z3, ?_⟩
      exact z2 _ _ _ _ (Pre.refl _) (Sub.refl _) (sr.set (m := .lst (l ++ m)) h1 ⟨vs ++ ws, upd_same, k2.app k4⟩) rfl
def rS (K : PySem.W.Frag) (ca : Nat → Addr) : V → V → V → Hp → (Hp → Prop) → Prop := fun o i v H Q => ∃ p F G M d e x W, SR K ca p F G M H ∧ RD K ca p F d o ∧ RD K ca p F e i ∧ RD K ca p F x v ∧ Tk K ca (fun _ _ (_ : Unit) (_ : Unit) => True) W G p F (subV d e x M) (fun _ H => Q H)
theorem s_sub (hu : X.A.units + 65 < cLine) : PSet X (rS X.K ca) := by
  intro pins s σ H o i v ov iv u Q I ro ri rv h
  obtain ⟨p, F, G, M, d, e, x, W, sr, rd, re, rx, h⟩ := h
  unfold subV at h
  split at h <;> try exact h.elim
  rename_i a
  obtain ⟨b, h1, rfl⟩ := rd
  cases q : M[a]? with
  | none => simp only [q] at h; exact h.elim
  | some m =>
    simp only [q] at h
    cases m with
    | lst l =>
      simp only at h
      split at h <;> try exact h.elim
      rename_i k
      obtain ⟨vs, k1, k2⟩ := sr.ob a b _ h1 q
      have ei : i = .int k := re
      subst ei
      cases q2 : ixN l.length k with
      | none => simp only [q2] at h; exact h.elim
      | some j =>
        simp only [q2] at h
        rw [k2.length] at q2
        refine set_list pins s σ H _ _ v ov iv u Q I ro ri rv ⟨b, vs, k, j, rfl, rfl, k1, q2, ?_⟩
        exact h _ _ _ () (Pre.refl _) (Sub.refl _) (sr.set (m := .lst (l.set j x)) h1 ⟨vs.set j v, upd_same, k2.set j rx⟩) trivial
    | dK l =>
      simp only at h
      obtain ⟨kvs, k1, k2⟩ := sr.ob a b _ h1 q
      cases q2 : keyD e with
      | none => simp only [q2] at h; exact h.elim
      | some k =>
        simp only [q2] at h
        have ei := keyD_ok re q2
        subst ei
        obtain ⟨z1, z2⟩ := Tk.okIf h
        have z3 := of_decide_eq_true z1
        rw [pr_len k2, line_eq] at z3
        refine set_dict (by omega) pins s σ H _ _ v ov iv u Q I ro ri rv ⟨b, _, rfl, DPut.k k1 z3, ?_⟩
        exact z2 _ _ _ () (Pre.refl _) (Sub.refl _) (sr.set (m := .dK (putKD l k x)) h1 ⟨_, upd_same, put_ok rx k2⟩) trivial
    | _ => exact h.elim
end
end Rw
end
section
set_option Elab.async false
set_option linter.all false
set_option maxRecDepth 100000
namespace Rw
open PySem PySem.Spec PyProof.Rows L2
/-- what a def promises: what the evaluator says of it -/
def spF (K : PySem.W.Frag) (ca : Nat → Addr) (C : Cal) (f n : Nat) : Sp := fun vs H Q E => vs.length = n ∧ ∃ p F G M ds, SR K ca p F G M H ∧ RDs K ca p F ds vs ∧ Tk K ca (RD K ca) E G p F (C f ds M) Q
theorem allT_mapD : ∀ {l : List D} {ts : List T}, allT l = some ts → ts.map D.t = l
  | [], ts, h => by unfold allT at h; cases h; rfl
  | .t x :: l, ts, h => by
    unfold allT at h
    cases q : allT l with
    | none => simp only [q] at h; cases h
    | some us =>
      simp only [q] at h
      cases h
      rw [List.map_cons, allT_mapD q]
  | .ref _ :: _, ts, h => by unfold allT at h; cases h
  | .tup _ :: _, ts, h => by unfold allT at h; cases h
  | .lst _ :: _, ts, h => by unfold allT at h; cases h
section
variable {K : PySem.W.Frag} {ca : Nat → Addr} {p : List Addr} {F G H H' : Hp} {M : Ar} {n : Nat}
theorem SR.nil (s : SR K ca p F G M H) : SR K ca [] F (ext G p H) [] H := by
  refine ⟨rfl, List.nodup_nil, s.fr, ext_in s.gr, fun a => ?_, fun a h => (nomatch h), fun a h => (nomatch h), fun i a o h => by simp at h⟩
  cases q : F a with
  | none => exact .inl rfl
  | some u =>
    right
    cases e : ext G p H a with
    | none => rfl
    | some o =>
      rcases ext_cases e with z | ⟨_, z, _⟩
      · rcases s.fg a with h | h
        · rw [h] at q; cases q
        · rw [h] at z; cases z
      · rw [s.pf a z] at q; cases q
/-- back from a clean call: what it made stays as it is from now on -/
theorem SR.back {p1 : List Addr} {F1 H1 : Hp} {M1 : Ar} (s : SR K ca p F G M H) (s1 : SR K ca p1 F1 (ext G p H) M1 H1) (h : Sub F F1) :
    Sub F (ext F1 p1 H1) ∧ SR K ca p (ext F1 p1 H1) G M H1 := by
  have stay : ∀ a ∈ p, ∀ o, H a = some o → ext G p H a = some o := fun a ha o e => by rw [ext_at (s.pg a ha) ha]; exact e
  have sub : Sub F (ext F1 p1 H1) := h.trans ext_sub
  have out : ∀ a ∈ p, ext F1 p1 H1 a = none := fun a ha => by
    obtain ⟨i, hi, e⟩ := List.mem_iff_getElem.mp ha
    have hM : i < M.length := by rw [← s.len]; exact hi
    obtain ⟨u, hu⟩ := (s.ob i a _ (by rw [List.getElem?_eq_getElem hi, e]) (List.getElem?_eq_getElem hM)).there
    have hx := stay a ha u hu
    have n1 : F1 a = none := by
      rcases s1.fg a with z | z
      · exact z
      · rw [z] at hx; cases hx
    exact ext_none n1 fun z => by have := s1.pg a z; rw [this] at hx; cases hx
  refine ⟨sub, s.len, s.nd, ext_in s1.fr, fun a o e => s1.gr a o (ext_sub a o e), fun a => ?_, out, s.pg, fun i a o e1 e2 => ?_⟩
  · cases q : G a with
    | none => exact .inr rfl
    | some u =>
      left
      have hx : ext G p H a = some u := ext_sub a u q
      have n1 : F1 a = none := by
        rcases s1.fg a with z | z
        · exact z
        · rw [z] at hx; cases hx
      exact ext_none n1 fun z => by have := s1.pg a z; rw [this] at hx; cases hx
  · have r := s.ob i a o e1 e2
    have ha : a ∈ p := List.mem_of_getElem? e1
    obtain ⟨u, hu⟩ := r.there
    exact r.sub (Pre.refl _) sub (by rw [hu]; exact s1.gr a u (stay a ha u hu))
/-- the arena seen as frozen, for a call that looks alone -/
theorem SR.peek (s : SR K ca p F G M H) : SR K ca [] (ext F p H) G [] H := by
  refine ⟨rfl, List.nodup_nil, ext_in s.fr, s.gr, fun a => ?_, fun a h => (nomatch h), fun a h => (nomatch h), fun i a o h => by simp at h⟩
  cases q : G a with
  | none => exact .inr rfl
  | some u =>
    left
    have n1 : F a = none := by
      rcases s.fg a with z | z
      · exact z
      · rw [z] at q; cases q
    exact ext_none n1 fun z => by have := s.pg a z; rw [this] at q; cases q
theorem SR.unpeek {p1 : List Addr} {F1 H1 : Hp} {M1 : Ar} (s : SR K ca p F G M H) (s1 : SR K ca p1 F1 G M1 H1) (h : Sub (ext F p H) F1) : SR K ca p F G M H1 := by
  refine ⟨s.len, s.nd, fun a o e => s1.fr a o (h a o (ext_sub a o e)), s1.gr, s.fg, s.pf, s.pg, fun i a o e1 e2 => ?_⟩
  have r := s.ob i a o e1 e2
  have ha : a ∈ p := List.mem_of_getElem? e1
  obtain ⟨u, hu⟩ := r.there
  exact r.sub (Pre.refl _) (Sub.refl _) (by rw [hu]; exact s1.fr a u (h a u (by rw [ext_at (s.pf a ha) ha]; exact hu)))
theorem SR.there (s : SR K ca p F G M H) {a : Addr} (ha : a ∈ p) : ∃ o, H a = some o := by
  obtain ⟨i, hi, e⟩ := List.mem_iff_getElem.mp ha
  have hM : i < M.length := by rw [← s.len]; exact hi
  exact (s.ob i a _ (by rw [List.getElem?_eq_getElem hi, e]) (List.getElem?_eq_getElem hM)).there
theorem SR.outF {p1 : List Addr} {F1 H1 : Hp} {M1 : Ar} {q : List Addr} (s1 : SR K ca p1 F1 (ext G q H) M1 H1) {a : Addr} {o : HO} (hx : ext G q H a = some o) : F1 a = none ∧ a ∉ p1 := by
  refine ⟨?_, fun z => by have := s1.pg a z; rw [this] at hx; cases hx⟩
  rcases s1.fg a with z | z
  · exact z
  · rw [z] at hx; cases hx
mutual
theorem RD.sh {q : List Addr} (hq : ∀ (i : Nat) a, p[i]? = some a → q[n + i]? = some a) : ∀ (d : D) (v : V), RD K ca p F d v → RD K ca q F (shD n d) v
  | .t x, v, h => h
  | .ref i, v, h => by
    obtain ⟨a, h1, h2⟩ := h
    exact ⟨a, hq i a h1, h2⟩
  | .tup l, v, h => by
    obtain ⟨a, vs, h1, h2, h3⟩ := h
    exact ⟨a, vs, h1, h2, RDs.sh hq l vs h3⟩
  | .lst l, v, h => by
    obtain ⟨a, vs, h1, h2, h3⟩ := h
    exact ⟨a, vs, h1, h2, RDs.sh hq l vs h3⟩
theorem RDs.sh {q : List Addr} (hq : ∀ (i : Nat) a, p[i]? = some a → q[n + i]? = some a) : ∀ (l : List D) (vs : List V), RDs K ca p F l vs → RDs K ca q F (shDs n l) vs
  | [], vs, h => h
  | d :: l, vs, h => by
    obtain ⟨v, w, e, h1, h2⟩ := h
    exact ⟨v, w, e, RD.sh hq d v h1, RDs.sh hq l w h2⟩
end
theorem Pr.sh {α : Type} {q : List Addr} (hq : ∀ (i : Nat) a, p[i]? = some a → q[n + i]? = some a) : ∀ {l : List (α × D)} {m : List (α × V)}, Paired (fun (x : α × D) (y : α × V) => x.1 = y.1 ∧ RD K ca p F x.2 y.2) l m → Paired (fun (x : α × D) (y : α × V) => x.1 = y.1 ∧ RD K ca q F x.2 y.2) (shP n l) m
  | [], _, .nil => .nil
  | (a, d) :: l, _, .cons h t => .cons ⟨h.1, RD.sh hq d _ h.2⟩ (Pr.sh hq t)
theorem RO.sh {q : List Addr} (hq : ∀ (i : Nat) a, p[i]? = some a → q[n + i]? = some a) {o : MO} {a : Addr} (h : RO K ca p F H o a) : RO K ca q F H (shO n o) a := by
  cases o with
  | lst l => obtain ⟨vs, h1, h2⟩ := h; exact ⟨vs, h1, RDs.sh hq l vs h2⟩
  | dK l => obtain ⟨vs, h1, h2⟩ := h; exact ⟨vs, h1, Pr.sh hq h2⟩
  | dT l => obtain ⟨vs, h1, h2⟩ := h; exact ⟨vs, h1, Pr.sh hq h2⟩
  | obj c l => obtain ⟨dx, fs, h1, h2⟩ := h; exact ⟨dx, fs, h1, Pr.sh hq h2⟩
  | gone => exact h
theorem SR.join {p1 : List Addr} {F1 H1 : Hp} {M1 : Ar} (s : SR K ca p F G M H) (s1 : SR K ca p1 F1 (ext G p H) M1 H1) (h : Sub F F1) :
    SR K ca (p ++ p1) F1 G (M ++ M1.map (shO M.length)) H1 ∧ ∀ (i : Nat) a, p1[i]? = some a → (p ++ p1)[M.length + i]? = some a := by
  have inG : ∀ a ∈ p, ∃ o, H a = some o ∧ ext G p H a = some o := fun a ha => by
    obtain ⟨o, e⟩ := s.there ha
    exact ⟨o, e, by rw [ext_at (s.pg a ha) ha]; exact e⟩
  have noG : ∀ a, ext G p H a = none → G a = none := fun a e => by
    cases q : G a with
    | none => rfl
    | some o => rw [ext_sub a o q] at e; cases e
  have hq : ∀ (i : Nat) a, p1[i]? = some a → (p ++ p1)[M.length + i]? = some a := fun i a e => by
    rw [← s.len, List.getElem?_append_right (by omega), Nat.add_sub_cancel_left]; exact e
  refine ⟨⟨?_, ?_, s1.fr, fun a o e => s1.gr a o (ext_sub a o e), fun a => ?_, fun a ha => ?_, fun a ha => ?_, fun i a o e1 e2 => ?_⟩, hq⟩
  · rw [List.length_append, List.length_append, List.length_map, s.len, s1.len]
  · refine List.nodup_append.mpr ⟨s.nd, s1.nd, fun a ha b hb e => ?_⟩
    subst e
    obtain ⟨o, _, e⟩ := inG a ha
    exact (s1.outF e).2 hb
  · rcases s1.fg a with z | z
    · exact .inl z
    · exact .inr (noG a z)
  · rcases List.mem_append.mp ha with ha | ha
    · obtain ⟨o, _, e⟩ := inG a ha
      exact (s1.outF e).1
    · exact s1.pf a ha
  · rcases List.mem_append.mp ha with ha | ha
    · exact s.pg a ha
    · exact noG a (s1.pg a ha)
  · by_cases hi : i < M.length
    · rw [List.getElem?_append_left (by rw [s.len]; exact hi)] at e1
      rw [List.getElem?_append_left hi] at e2
      have ha : a ∈ p := List.mem_of_getElem? e1
      obtain ⟨u, k1, k2⟩ := inG a ha
      refine (s.ob i a o e1 e2).sub (fun j b e => ?_) h (by rw [k1]; exact s1.gr a u k2)
      rw [List.getElem?_append_left (List.getElem?_eq_some_iff.mp e).1]; exact e
    · have hl : M.length ≤ i := by omega
      rw [List.getElem?_append_right (by rw [s.len]; exact hl), s.len] at e1
      rw [List.getElem?_append_right hl, List.getElem?_map] at e2
      cases qo : M1[i - M.length]? with
      | none => rw [qo] at e2; cases e2
      | some o1 =>
        rw [qo] at e2
        cases e2
        exact RO.sh hq (s1.ob _ a o1 e1 qo)
theorem snap_rtE (F' : Hp) (sub : Sub F F') (ob : ∀ (i : Nat) b o, p[i]? = some b → M[i]? = some o → o ≠ .gone → RO K ca p F F' o b) : ∀ (n : Nat) (d : D) (t : T) (v : V), RD K ca p F d v → snap M n d = some t → RT K ca F' t v
  | n, .t x, t, v, h, e => by
    have e1 : x = t := by cases n <;> exact Option.some.inj e
    subst e1
    exact RT.sub sub x v h
  | 0, .ref _, _, _, _, e => by cases e
  | 0, .tup _, _, _, _, e => by cases e
  | 0, .lst _, _, _, _, e => by cases e
  | n + 1, .ref i, t, v, h, e => by
    obtain ⟨a, h1, h2⟩ := h
    unfold snap at e
    cases q : M[i]? with
    | none => simp only [q] at e; cases e
    | some o =>
      simp only [q] at e
      have e1 := e
      cases o with
      | dK m =>
        obtain ⟨kvs, k1, k2⟩ := ob i a _ h1 q (by intro z; cases z)
        dsimp only at e1
        cases q2 : mapO (snap M n) (m.map (·.2)) with
        | none => rw [q2] at e1; cases e1
        | some ts =>
          rw [q2] at e1
          have e2 : T.dct (m.map (·.1)) ts = t := Option.some.inj e1
          subst e2
          obtain ⟨z1, z2⟩ := pr_split k2
          exact ⟨a, kvs.map (·.2), h2, .inl (by rw [k1, ← z1]), by rw [List.length_map, List.length_map, pr_len k2], mapO_ok (snap_rtE F' sub ob n) _ ts _ z2 q2⟩
      | obj c m =>
        obtain ⟨dx, kvs, k1, k2⟩ := ob i a _ h1 q (by intro z; cases z)
        dsimp only at e1
        cases q2 : mapO (snap M n) (m.map (·.2)) with
        | none => rw [q2] at e1; cases e1
        | some ts =>
          rw [q2] at e1
          have e2 : T.obj c (m.map (·.1)) ts = t := Option.some.inj e1
          subst e2
          obtain ⟨z1, z2⟩ := pr_split k2
          exact ⟨a, dx, kvs.map (·.2), h2, by rw [k1, ← z1], by rw [List.length_map, List.length_map, pr_len k2], mapO_ok (snap_rtE F' sub ob n) _ ts _ z2 q2⟩
      | lst m =>
        obtain ⟨vs, k1, k2⟩ := ob i a _ h1 q (by intro z; cases z)
        dsimp only at e1
        cases q2 : mapO (snap M n) m with
        | none => rw [q2] at e1; cases e1
        | some ts =>
          rw [q2] at e1
          have e2 : T.lst ts = t := Option.some.inj e1
          subst e2
          exact ⟨a, vs, h2, k1, mapO_ok (snap_rtE F' sub ob n) m ts vs k2 q2⟩
      | _ => cases e1
  | n + 1, .tup m, t, v, h, e => by
    obtain ⟨a, vs, h1, h2, h3⟩ := h
    have e1 : (mapO (snap M n) m).map T.tup = some t := e
    cases q2 : mapO (snap M n) m with
    | none => rw [q2] at e1; cases e1
    | some ts =>
      rw [q2] at e1
      have e2 : T.tup ts = t := Option.some.inj e1
      subst e2
      exact ⟨a, vs, h1, sqT_sub sub h2, mapO_ok (snap_rtE F' sub ob n) m ts vs h3 q2⟩
  | n + 1, .lst m, t, v, h, e => by
    obtain ⟨a, vs, h1, h2, h3⟩ := h
    have e1 : (mapO (snap M n) m).map T.lst = some t := e
    cases q2 : mapO (snap M n) m with
    | none => rw [q2] at e1; cases e1
    | some ts =>
      rw [q2] at e1
      have e2 : T.lst ts = t := Option.some.inj e1
      subst e2
      exact ⟨a, vs, h1, sub _ _ h2, mapO_ok (snap_rtE F' sub ob n) m ts vs h3 q2⟩
def others (p : List Addr) (a : Addr) : List Addr := p.filter fun b => decide (b ≠ a)
theorem others_mem {a b : Addr} : b ∈ others p a ↔ b ∈ p ∧ b ≠ a := by unfold others; rw [List.mem_filter, decide_eq_true_eq]
theorem SR.one (s : SR K ca p F G M H) {i : Nat} {a : Addr} {l : List D} {ls : List T} (hi : p[i]? = some a) (hM : M[i]? = some (.lst l)) (hl : allT l = some ls) : SR K ca [a] F (ext G (others p a) H) [.lst l] H := by
  have ha : a ∈ p := List.mem_of_getElem? hi
  have nG : ext G (others p a) H a = none := ext_none (s.pg a ha) fun z => (others_mem.mp z).2 rfl
  refine ⟨rfl, by simp, s.fr, ext_in s.gr, fun b => ?_, fun b h => ?_, fun b h => ?_, fun j b o e1 e2 => ?_⟩
  · cases q : F b with
    | none => exact .inl rfl
    | some u =>
      right
      cases e : ext G (others p a) H b with
      | none => rfl
      | some o =>
        rcases ext_cases e with z | ⟨_, z, _⟩
        · rcases s.fg b with h | h
          · rw [h] at q; cases q
          · rw [h] at z; cases z
        · rw [s.pf b (others_mem.mp z).1] at q; cases q
  · rw [List.mem_singleton.mp h]; exact s.pf a ha
  · rw [List.mem_singleton.mp h]; exact nG
  · cases j with
    | zero =>
      cases e1
      cases e2
      obtain ⟨vs, k1, k2⟩ := s.ob i a _ hi hM
      refine ⟨vs, k1, ?_⟩
      have z := RTs.toD (p := [a]) (k2.allT hl)
      rw [allT_mapD hl] at z
      exact z
    | succ j => simp at e1
theorem SR.oneBack {p1 : List Addr} {F1 H1 : Hp} {r : Ar} {i : Nat} {a : Addr} {l : List D} {ls : List T} (s : SR K ca p F G M H) (hi : p[i]? = some a) (hp : Pre [a] p1) (s1 : SR K ca p1 F1 (ext G (others p a) H) (.lst l :: r) H1) (h : Sub F F1) (hl : allT l = some ls) :
    Sub F (ext F1 (others p1 a) H1) ∧ SR K ca p (ext F1 (others p1 a) H1) G (M.set i (.lst l)) H1 ∧ ∀ (d : D) (t : T) (v : V), RD K ca p1 F1 d v → snap (.gone :: r) deep d = some t → RT K ca (ext F1 (others p1 a) H1) t v := by
  have ha : a ∈ p := List.mem_of_getElem? hi
  have h0 : p1[0]? = some a := hp 0 a rfl
  have ha1 : a ∈ p1 := List.mem_of_getElem? h0
  have sub : Sub F (ext F1 (others p1 a) H1) := h.trans ext_sub
  have stay : ∀ b ∈ p, b ≠ a → ∃ o, H b = some o ∧ ext G (others p a) H b = some o := fun b hb hn => by
    obtain ⟨o, e⟩ := s.there hb
    exact ⟨o, e, by rw [ext_at (s.pg b hb) (others_mem.mpr ⟨hb, hn⟩)]; exact e⟩
  have nA : ext F1 (others p1 a) H1 a = none := ext_none (s1.pf a ha1) fun z => (others_mem.mp z).2 rfl
  refine ⟨sub, ⟨by rw [List.length_set]; exact s.len, s.nd, ext_in s1.fr, fun b o e => s1.gr b o (ext_sub b o e), fun b => ?_, fun b hb => ?_, s.pg, fun j b o e1 e2 => ?_⟩, fun d t v rd q => ?_⟩
  · cases q : G b with
    | none => exact .inr rfl
    | some u =>
      left
      obtain ⟨n1, n2⟩ := s1.outF (ext_sub b u q)
      exact ext_none n1 fun z => n2 (others_mem.mp z).1
  · by_cases hn : b = a
    · rw [hn]; exact nA
    · obtain ⟨o, _, e⟩ := stay b hb hn
      obtain ⟨n1, n2⟩ := s1.outF e
      exact ext_none n1 fun z => n2 (others_mem.mp z).1
  · by_cases hj : j = i
    · subst hj
      rw [hi] at e1
      cases e1
      have hlt : j < M.length := by rw [← s.len]; exact (List.getElem?_eq_some_iff.mp hi).1
      rw [List.getElem?_set_self hlt] at e2
      cases e2
      obtain ⟨vs, k1, k2⟩ := s1.ob 0 a _ h0 rfl
      refine ⟨vs, k1, ?_⟩
      have z := RTs.toD (p := p) (RTs.sub (ext_sub (p := others p1 a) (H := H1)) _ _ (k2.allT hl))
      rw [allT_mapD hl] at z
      exact z
    · rw [List.getElem?_set_ne (Ne.symm hj)] at e2
      have hb : b ∈ p := List.mem_of_getElem? e1
      have hn : b ≠ a := fun z => by
        subst z
        have l1 := (List.getElem?_eq_some_iff.mp e1)
        have l2 := (List.getElem?_eq_some_iff.mp hi)
        exact hj ((List.getElem_inj s.nd).mp (l1.2.trans l2.2.symm))
      obtain ⟨u, k1, k2⟩ := stay b hb hn
      exact (s.ob j b o e1 e2).sub (Pre.refl _) sub (by rw [k1]; exact s1.gr b u k2)
  · refine snap_rtE (M := .gone :: r) _ ext_sub (fun j b m e1 e2 hg => ?_) deep d t v rd q
    cases j with
    | zero => cases e2; exact absurd rfl hg
    | succ j =>
      have e3 : (MO.lst l :: r)[j + 1]? = some m := e2
      have hb : b ∈ p1 := List.mem_of_getElem? e1
      have hn : b ≠ a := fun z => by
        subst z
        have l1 := (List.getElem?_eq_some_iff.mp e1)
        have l2 := (List.getElem?_eq_some_iff.mp h0)
        have := (List.getElem_inj s1.nd).mp (l1.2.trans l2.2.symm)
        omega
      exact (s1.ob (j + 1) b _ e1 e3).sub (Pre.refl _) (Sub.refl _) (by rw [ext_at (s1.pf b hb) (others_mem.mpr ⟨hb, hn⟩)])
/-- a thing that stands in the heap already, and is nobody's -/
theorem SR.addF (s : SR K ca p F G M H) {a : Addr} {o : HO} (hF : F a = none) (hG : G a = none) (hp : a ∉ p) (hH : H a = some o) : Sub F (upd F a o) ∧ SR K ca p (upd F a o) G M H := by
  have sb : Sub F (upd F a o) := fun b u e => by rw [upd_ne (ne_of_none e hF)]; exact e
  refine ⟨sb, s.len, s.nd, fun b u e => ?_, s.gr, fun b => ?_, fun b hb => ?_, s.pg, fun i b u e1 e2 => (s.ob i b u e1 e2).sub (Pre.refl _) sb rfl⟩
  · by_cases h : b = a
    · subst h; rw [upd_same] at e; cases e; exact hH
    · rw [upd_ne h] at e; exact s.fr b u e
  · by_cases h : b = a
    · subst h; exact .inr hG
    · rw [upd_ne h]; exact s.fg b
  · have : b ≠ a := fun e => hp (e ▸ hb)
    rw [upd_ne this]; exact s.pf b hb
theorem scT_rel {d : D} {v : V} {t : T} (r : RD K ca p F d v) (e : scT d = some t) : ∀ F', RT K ca F' t v := by
  cases d with
  | t x =>
    cases x with
    | non => cases e; exact fun _ => r
    | bl b => cases e; exact fun _ => r
    | int b => cases e; exact fun _ => r
    | str b => cases e; exact fun _ => r
    | _ => cases e
  | _ => cases e
theorem scTs_rel : ∀ {l : List D} {vs : List V} {ts : List T}, RDs K ca p F l vs → mapO scT l = some ts → ∀ F', RTs K ca F' ts vs
  | [], vs, ts, h, e, F' => by
    have e1 : ts = [] := (Option.some.inj (show (some [] : Option (List T)) = some ts from e)).symm
    subst e1; exact h
  | d :: l, vs, ts, ⟨v, w, e0, h1, h2⟩, e, F' => by
    obtain ⟨t, m, q, q2, e2⟩ := mapO_cons e
    subst e2
    exact ⟨v, w, e0, scT_rel h1 q F', scTs_rel h2 q2 F'⟩
/-- a call, in each of its modes -/
theorem callV_ok {C : Cal} {m : Md} {f : Nat} {ds : List D} {vs : List V} {W : XK} {Q : VK} {n : Nat} (hn : vs.length = n) (s : SR K ca p F G M H) (r : RDs K ca p F ds vs) (h : Tk K ca (RD K ca) W G p F (callV C m f ds M) Q) : spF K ca C f n vs H Q W := by
  refine ⟨hn, ?_⟩
  cases m with
  | plain => exact ⟨p, F, G, M, ds, s, r, h⟩
  | clean =>
    unfold callV at h
    cases q : allT ds with
    | none => simp only [q] at h; exact h.elim
    | some ts =>
      simp only [q] at h
      refine ⟨[], F, ext G p H, [], ts.map .t, s.nil, RTs.toD (r.allT q), ?_⟩
      cases e : C f (ts.map .t) [] with
      | stuck => simp only [e] at h; exact h.elim
      | exc c fs M1 =>
        simp only [e] at h
        intro p1 F1 H1 cls d _ h2 s1 x
        obtain ⟨b1, b2⟩ := s.back s1 h2
        refine h p (ext F1 p1 H1) H1 cls d (Pre.refl _) b1 b2 ?_
        obtain ⟨x1, x2⟩ := x
        refine ⟨x1, ?_⟩
        cases fs with
        | nil => exact x2
        | cons z zs =>
          obtain ⟨a, vs', y1, y2, y3⟩ := x2
          exact ⟨a, vs', y1, y2, Paired.mapP y3 fun u v w => ⟨w.1, RT.sub ext_sub _ _ w.2⟩⟩
      | ok d M1 =>
        simp only [e] at h
        cases q2 : snap M1 deep d with
        | none => simp only [q2] at h; exact h.elim
        | some t =>
          simp only [q2] at h
          intro p1 F1 H1 v _ h2 s1 x
          obtain ⟨b1, b2⟩ := s.back s1 h2
          exact h p (ext F1 p1 H1) H1 v (Pre.refl _) b1 b2 (snap_rt s1 deep d t v x q2)
  | peek =>
    unfold callV at h
    cases q : mapO (snap M deep) ds with
    | none => simp only [q] at h; exact h.elim
    | some ts =>
      simp only [q] at h
      refine ⟨[], ext F p H, G, [], ts.map .t, s.peek, RTs.toD (mapO_ok (snap_rt s deep) ds ts vs r q), ?_⟩
      cases e : C f (ts.map .t) [] with
      | stuck => simp only [e] at h; exact h.elim
      | exc c fs M1 => simp only [e] at h; exact h.elim
      | ok d M1 =>
        simp only [e] at h
        cases q2 : scV d with
        | none => simp only [q2] at h; exact h.elim
        | some u =>
          simp only [q2] at h
          intro p1 F1 H1 v _ h2 s1 x
          have s2 := s.unpeek s1 h2
          refine h p F H1 v (Pre.refl _) (Sub.refl _) s2 ?_
          cases d with
          | t y =>
            cases y with
            | non => exact x
            | bl b => exact x
            | int b => exact x
            | str b => exact x
            | _ => cases q2
          | _ => cases q2
  | peekD =>
    unfold callV at h
    cases q : mapO (snap M deep) ds with
    | none => simp only [q] at h; exact h.elim
    | some ts =>
      simp only [q] at h
      refine ⟨[], ext F p H, G, [], ts.map .t, s.peek, RTs.toD (mapO_ok (snap_rt s deep) ds ts vs r q), ?_⟩
      cases e : C f (ts.map .t) [] with
      | stuck => simp only [e] at h; exact h.elim
      | exc c fs M1 => simp only [e] at h; exact h.elim
      | ok d M1 =>
        simp only [e] at h
        cases d with
        | ref i =>
          simp only at h
          intro p1 F1 H1 v _ h2 s1 x
          obtain ⟨a, x1, rfl⟩ := x
          have ha : a ∈ p1 := List.mem_of_getElem? x1
          have s2 := s.unpeek s1 h2
          have nx : ext F p H a = none := by
            cases q3 : ext F p H a with
            | none => rfl
            | some o => have := h2 a o q3; rw [s1.pf a ha] at this; cases this
          have nF : F a = none := by
            cases q3 : F a with
            | none => rfl
            | some o => rw [ext_sub a o q3] at nx; cases nx
          have nP : a ∉ p := fun z => by
            obtain ⟨o, e1⟩ := s.there z
            rw [ext_at nF z, e1] at nx
            cases nx
          unfold newV at h
          cases q2 : M1[i]? with
          | none => simp only [q2] at h; exact h.elim
          | some o =>
            simp only [q2] at h
            cases o with
            | dK l =>
              simp only at h
              obtain ⟨kvs, k1, k2⟩ := s1.ob i a _ x1 q2
              cases q3 : mapO scT (l.map (·.2)) with
              | none => simp only [q3] at h; exact h.elim
              | some us =>
                simp only [q3] at h
                obtain ⟨z1, z2⟩ := s2.addF nF (s1.pg a ha) nP k1
                obtain ⟨y1, y2⟩ := pr_split k2
                refine h p _ H1 _ (Pre.refl _) z1 z2 ⟨a, kvs.map (·.2), rfl, .inl ?_, by rw [List.length_map, List.length_map, pr_len k2], scTs_rel y2 q3 _⟩
                rw [upd_same, ← y1]
            | lst l =>
              simp only at h
              obtain ⟨us, k1, k2⟩ := s1.ob i a _ x1 q2
              cases q3 : mapO scT l with
              | none => simp only [q3] at h; exact h.elim
              | some ws =>
                simp only [q3] at h
                obtain ⟨z1, z2⟩ := s2.addF nF (s1.pg a ha) nP k1
                exact h p _ H1 _ (Pre.refl _) z1 z2 ⟨a, us, rfl, upd_same, scTs_rel k2 q3 _⟩
            | _ => exact h.elim
        | _ => exact h.elim
  | fresh =>
    unfold callV at h
    cases q : allT ds with
    | none => simp only [q] at h; exact h.elim
    | some ts =>
      simp only [q] at h
      refine ⟨[], F, ext G p H, [], ts.map .t, s.nil, RTs.toD (r.allT q), ?_⟩
      cases e : C f (ts.map .t) [] with
      | stuck => simp only [e] at h; exact h.elim
      | exc c fs M1 =>
        simp only [e] at h
        intro p1 F1 H1 cls d _ h2 s1 x
        obtain ⟨b1, b2⟩ := s.back s1 h2
        refine h p (ext F1 p1 H1) H1 cls d (Pre.refl _) b1 b2 ?_
        obtain ⟨x1, x2⟩ := x
        refine ⟨x1, ?_⟩
        cases fs with
        | nil => exact x2
        | cons z zs =>
          obtain ⟨a, vs', y1, y2, y3⟩ := x2
          exact ⟨a, vs', y1, y2, Paired.mapP y3 fun u v w => ⟨w.1, RT.sub ext_sub _ _ w.2⟩⟩
      | ok d M1 =>
        simp only [e] at h
        intro p1 F1 H1 v _ h2 s1 x
        obtain ⟨j1, j2⟩ := s.join s1 h2
        exact h (p ++ p1) F1 H1 v (fun j b e => by rw [List.getElem?_append_left (List.getElem?_eq_some_iff.mp e).1]; exact e) h2 j1 (RD.sh j2 d v x)
  | focus =>
    unfold callV at h
    cases ds with
    | nil => exact h.elim
    | cons d0 ds' =>
      cases d0 with
      | ref i =>
        simp only at h
        cases q0 : M[i]? with
        | none => simp only [q0] at h; exact h.elim
        | some ob =>
          cases ob with
          | lst l =>
            cases q1 : allT ds' with
            | none => simp only [q0, q1] at h; exact h.elim
            | some ts =>
              simp only [q0, q1] at h
              cases q2 : allT l with
              | none => simp only [q2] at h; exact h.elim
              | some ls =>
                simp only [q2] at h
                obtain ⟨v0, vs0, rfl, ⟨a, hi, rfl⟩, r2⟩ := r
                have s0 := s.one hi q0 q2
                refine ⟨[a], F, ext G (others p a) H, [.lst l], .ref 0 :: ts.map .t, s0, ⟨.ref a, vs0, rfl, ⟨a, rfl, rfl⟩, RTs.toD (r2.allT q1)⟩, ?_⟩
                cases e : C f (.ref 0 :: ts.map .t) [.lst l] with
                | stuck => simp only [e] at h; exact h.elim
                | exc c fs M1 => simp only [e] at h; exact h.elim
                | ok d M1 =>
                  simp only [e] at h
                  unfold foc at h
                  cases M1 with
                  | nil => exact h.elim
                  | cons o1 r1 =>
                    cases o1 with
                    | lst l1 =>
                      simp only at h
                      cases q3 : allT l1 with
                      | none => simp only [q3] at h; exact h.elim
                      | some ls1 =>
                        cases q4 : snap (.gone :: r1) deep d with
                        | none => simp only [q3, q4] at h; exact h.elim
                        | some t =>
                          simp only [q3, q4] at h
                          intro p1 F1 H1 v hp1 h2 s1 x
                          obtain ⟨b1, b2, b3⟩ := s.oneBack hi hp1 s1 h2 q3
                          exact h p _ H1 v (Pre.refl _) b1 b2 (b3 d t v x q4)
                    | _ => exact h.elim
          | _ => simp only [q0] at h; exact h.elim
      | _ => exact h.elim
end
/-- a table of the module: text keys, values that never change -/
def TabOk (K : PySem.W.Frag) (ca : Nat → Addr) (w : World) (mg : Str → Option Value) (x : Str) (l : List (Str × T)) : Prop :=
  ∃ a es n, mg x = some (.ref a) ∧ KDict K w a es n ∧ Paired (fun (e : DictEntry) (q : Str × T) => (∃ t, e.key = .str q.1 t) ∧ ∃ v, RelV v e.val ∧ ∀ F, RT K ca F q.2 v) es.toList l
structure Facts (P : Pg) (fns : Nat → Option Fn) (w : World) (K : PySem.W.Frag) (mg : Str → Option Value) (ca fa : Nat → Addr) (fdt : Nat → FuncData) : Prop where
  free : ∀ x, x ∈ (["len", "int", "list", "tuple", "isinstance", "bool", "min", "max", "range", "enumerate", "str", "sum", "dict", "zip", "sorted", "set"] : List Str) → mg x = none
  cst : ∀ x t, (x, t) ∈ P.consts → ∃ u v, mg x = some u ∧ RelV v u ∧ ∀ F, RT K ca F t v
  tab : ∀ x l, (x, l) ∈ P.tabs → TabOk K ca w mg x l
  gnm : ∀ f x, (f, x) ∈ P.gname → mg x = some (.ref (fa f)) ∧ PySem.W.keepIn K (.ref (fa f)) = true
  cls : ∀ c f, (c, f) ∈ P.flds → Cls K (ca c) ∧ NoAttr K (ca c) f
  mth : ∀ c m f, (c, m, f) ∈ P.meths → Cls K (ca c) ∧ Meth K (ca c) m (fa f)
  mak : ∀ c x f, (c, x, f) ∈ P.makes → mg x = some (.ref (ca c)) ∧ Mk K (ca c) (fa f)
  bnd : ∀ f fn, fns f = some fn → Binds K (fdt f) (fn.names.take fn.np) []
  npl : ∀ f fn, fns f = some fn → (fn.names.take fn.np).length = fn.np
/-- where a piece of code stands -/
structure Good (P : Pg) (fns : Nat → Option Fn) (ca fa : Nat → Addr) (fdt : Nat → FuncData) (C : Cal) (k : Nat) (X : Cx) (N : List Str) (sc : Scope) (W : XK) : Prop where
  hN : X.N = N
  nd : N.Nodup
  hsc : X.env.scope = sc
  calm : X.calm = true
  room : Room (k + 1) X.A
  fx : Facts P fns X.w X.K X.mg ca fa fdt
  fns : ∀ f fn, fns f = some fn → FnOk X.prog X.w X.K X.mg X.base (L2.CX X.prog X.w) k (fa f) (fdt f) (fn.names.take fn.np) (spF X.K ca C f fn.np)
  tk : Takes X (fun c d _ H => W c d H)
theorem PE.imp {X : Cx} {e : Expr} {t t' : TE} (h : PE X e t) (k : ∀ σ H Q, t' σ H Q → t σ H Q) : PE X e t' := ⟨fun pins s σ H Q I q => h.run pins s σ H Q I (k σ H Q q)⟩
theorem PA.imp {X : Cx} {e : List Expr} {t t' : TA} (h : PA X e t) (k : ∀ σ H Q, t' σ H Q → t σ H Q) : PA X e t' := ⟨fun pos pins s σ H Q I q => h.run pos pins s σ H Q I (k σ H Q q)⟩
theorem PT.imp {X : Cx} {e : Expr} {t t' : TT} (h : PT X e t) (k : ∀ σ H Q, t' σ H Q → t σ H Q) : PT X e t' := ⟨fun pins s σ H Q I q => h.run pins s σ H Q I (k σ H Q q)⟩
theorem PW.imp {X : Cx} {e : Expr} {t t' : TT} (h : PW X e t) (k : ∀ σ H Q, t' σ H Q → t σ H Q) : PW X e t' := ⟨fun wh pins s σ H Q I q => h.run wh pins s σ H Q I (k σ H Q q)⟩
theorem Res.bind_assoc {α β γ : Type} (r : Res α) (f : α → Ar → Res β) (g : β → Ar → Res γ) : (r.bind f).bind g = r.bind fun a M => (f a M).bind g := by
  cases r <;> rfl
end Rw
end
section
set_option Elab.async false
set_option linter.all false
set_option maxRecDepth 100000
namespace Rw
open PySem PySem.Spec PyProof.Rows L2
def visB (sc : Scope) (x : Str) : Bool := match sc.names.lookup x with
  | some .local => true
  | some .cell => true
  | some .free => true
  | _ => false
theorem visB_ok {sc : Scope} {x : Str} (h : visB sc x = true) : Vis sc x := by
  unfold visB at h
  unfold Vis
  split at h
  · exact .inl (by assumption)
  · exact .inr (.inl (by assumption))
  · exact .inr (.inr (by assumption))
  · cases h
def glB (sc : Scope) (x : Str) : Bool := (match sc.names.lookup x with
  | some .globalImplicit => true
  | _ => false) && !(x == ("__debug__" : Str)) && !(x == ("__name__" : Str))
theorem glB_ok {sc : Scope} {x : Str} (h : glB sc x = true) : sc.names.lookup x = some .globalImplicit ∧ (x == ("__debug__" : Str)) = false ∧ x ≠ "__name__" := by
  unfold glB at h
  simp only [Bool.and_eq_true, Bool.not_eq_true'] at h
  obtain ⟨⟨h1, h2⟩, h3⟩ := h
  refine ⟨?_, h2, by simpa using h3⟩
  split at h1
  · assumption
  · cases h1
def conB : T → Const → Bool
  | .non, .none => true
  | .bl b, .bool c => b == c
  | .int i, .int j => decide (i = j)
  | .str x, .str y => decide (x = y)
  | _, _ => false
def binB : BinK → Operator → Bool
  | .add, .Add => true
  | .sub, .Sub => true
  | .mul, .Mult => true
  | .fdiv, .FloorDiv => true
  | .mod, .Mod => true
  | .pow, .Pow => true
  | _, _ => false
theorem binB_ok {o : BinK} {p : Operator} (h : binB o p = true) : p = binO o := by
  cases o <;> cases p <;> first | rfl | cases h
def cmpB : CmpK → CmpOp → Bool
  | .eq, .Eq => true
  | .ne, .NotEq => true
  | .lt, .Lt => true
  | .le, .LtE => true
  | .gt, .Gt => true
  | .ge, .GtE => true
  | .isIn, .In => true
  | .notIn, .NotIn => true
  | _, _ => false
theorem cmpB_ok {o : CmpK} {p : CmpOp} (h : cmpB o p = true) : p = cmpO o := by
  cases o <;> cases p <;> first | rfl | cases h
def noStar : Expr → Bool
  | .Starred .. => false
  | _ => true
theorem noStar_ok {e : Expr} (h : noStar e = true) (es : List Expr) (env : Env) : starEach (e :: es) env = (false, eval e env) :: starEach es env := by
  cases e <;> first | rfl | cases h
def noSlice : Expr → Bool
  | .Slice .. => false
  | _ => true
theorem noSlice_ok {e : Expr} (h : noSlice e = true) : ∀ o i, subscripted e false o i = operate [o, i] (getItem o i) := by
  intro o i
  cases e <;> first | rfl | cases h
/-- not a call of no arguments (super()) -/
def noSuper : Expr → Bool
  | .Call _ [] [] _ => false
  | _ => true
theorem noSuper_ok {e : Expr} (h : noSuper e = true) (f : Str) (env : Env) : attributeBase e f env (eval e env) = eval e env := by
  unfold attributeBase
  split
  · cases h
  · rfl
def plainT : Expr → Bool
  | .UnaryOp .Not _ _ => false
  | .BoolOp .. => false
  | .IfExp .. => false
  | .Compare .. => false
  | _ => true
theorem plainT_ok {e : Expr} (h : plainT e = true) (env : Env) : ∀ whole, isTrue e env whole = (do let v ← whole; standAt e.pos; holding [v] (truthy v)) := by
  intro whole
  cases e with
  | UnaryOp op a p => cases op <;> first | rfl | cases h
  | _ => first | rfl | cases h
theorem star_any : ∀ {es : List Expr} {pos : Pos} {env : Env}, es.all noStar = true → (backTo pos (starEach es env)).any (·.1) = false
  | [], _, _, _ => rfl
  | e :: es, pos, env, h => by
    simp only [List.all_cons, Bool.and_eq_true] at h
    rw [noStar_ok h.1]
    have ih := star_any (pos := pos) (env := env) h.2
    show (false || (backTo pos (starEach es env)).any (·.1)) = false
    rw [ih]; rfl
theorem star_all : ∀ {es : List Expr} {pos : Pos} {env : Env}, es.all noStar = true → (backTo pos (starEach es env)).all (fun x => !x.1) = true
  | [], _, _, _ => rfl
  | e :: es, pos, env, h => by
    simp only [List.all_cons, Bool.and_eq_true] at h
    rw [noStar_ok h.1]
    have ih := star_all (pos := pos) (env := env) h.2
    show (!false && (backTo pos (starEach es env)).all (fun x => !x.1)) = true
    rw [ih]; rfl
section
variable {P : Pg} {fns : Nat → Option Fn} {ca fa : Nat → Addr} {fdt : Nat → FuncData} {C : Cal} {k : Nat} {X : Cx} {N : List Str} {sc : Scope} {W : XK}
abbrev SE (ca : Nat → Addr) (C : Cal) (X : Cx) (W : XK) (x : Ex) (e : Expr) : Prop := PE X e (TEo X.K ca W (evE C x))
abbrev SA (ca : Nat → Addr) (C : Cal) (X : Cx) (W : XK) (x : List Ex) (e : List Expr) : Prop := PA X e (TAo X.K ca W (evEs C x))
abbrev ST (ca : Nat → Addr) (C : Cal) (X : Cx) (W : XK) (x : Ex) (e : Expr) : Prop := PT X e (TTo X.K ca W (evT C x))
theorem Good.gl (g : Good P fns ca fa fdt C k X N sc W) {x : Str} (h : glB sc x = true) : Gl X x ∧ (x == ("__debug__" : Str)) = false ∧ x ≠ "__name__" := by
  obtain ⟨h1, h2, h3⟩ := glB_ok h
  exact ⟨by show X.env.scope.names.lookup x = _; rw [g.hsc]; exact h1, h2, h3⟩
theorem Good.hu (g : Good P fns ca fa fdt C k X N sc W) : X.A.units + 65 < cLine := by have := g.room.un; omega
theorem Good.passes (g : Good P fns ca fa fdt C k X N sc W) : Passes (L2.CX X.prog X.w) X W := passes_call g.tk fun _ _ _ _ h => h
theorem s_var (g : Good P fns ca fa fdt C k X N sc W) {i : Nat} {x : Str} {pos : Pos} (h1 : N[i]? = some x) (h2 : visB sc x = true) (h3 : (x == ("__debug__" : Str)) = false) (h4 : (x == ("__classdict__" : Str)) = false) : SE ca C X W (.var i) (.Name x pos) := by
  refine PE.imp (pe_var (by rw [g.hN]; exact h1) (by rw [g.hsc]; exact visB_ok h2) h3 h4) fun σ H Q h => ?_
  obtain ⟨p, F, G, r, M, sr, er, h⟩ := h
  unfold evE at h
  split at h
  · rename_i d q
    obtain ⟨v, e1, e2⟩ := er.2 i d q
    exact ⟨v, e1, h.ok sr e2⟩
  · exact h.elim
theorem s_con {t : T} {c : Const} {j : Nat} {pos : Pos} (h : conB t c = true) : SE ca C X W (.con t) (.Constant c j pos) := by
  have fin : ∀ {v : V}, (∀ F, RT X.K ca F t v) → ∀ σ H Q, TEo X.K ca W (evE C (.con t)) σ H Q → tC v σ H Q := fun {v} hv σ H Q h => by
    obtain ⟨p, F, G, r, M, sr, er, h⟩ := h
    exact Tk.ok h sr (hv F)
  cases t with
  | non =>
    cases c with
    | none => exact PE.imp pe_non (fin fun F => rfl)
    | _ => cases h
  | bl b =>
    cases c with
    | bool d =>
      have e : b = d := by simpa [conB] using h
      subst e
      exact PE.imp pe_bl (fin fun F => rfl)
    | _ => cases h
  | int b =>
    cases c with
    | int d =>
      have e : b = d := by simpa [conB] using h
      subst e
      exact PE.imp pe_int (fin fun F => rfl)
    | _ => cases h
  | str b =>
    cases c with
    | str d =>
      have e : b = d := by simpa [conB] using h
      subst e
      exact PE.imp pe_str (fin fun F => rfl)
    | _ => cases h
  | _ => cases h
theorem s_glo (g : Good P fns ca fa fdt C k X N sc W) {x : Str} {t : T} {pos : Pos} (h1 : (x, t) ∈ P.consts) (h2 : glB sc x = true) : SE ca C X W (.glo t) (.Name x pos) := by
  obtain ⟨u, v, e1, e2, e3⟩ := g.fx.cst x t h1
  obtain ⟨g1, g2, g3⟩ := g.gl h2
  refine PE.imp (pe_glob g1 e1 e2 g2) fun σ H Q h => ?_
  obtain ⟨p, F, G, r, M, sr, er, h⟩ := h
  unfold evE at h
  exact Tk.ok h sr (e3 F)
/-- what is never asked -/
theorem s_bad {e : Expr} : SE ca C X W .bad e := by
  refine ⟨fun pins s σ H Q I h => ?_⟩
  obtain ⟨p, F, G, r, M, sr, er, h⟩ := h
  unfold evE at h
  exact h.elim
theorem s_badT {e : Expr} : ST ca C X W .bad e := by
  refine ⟨fun pins s σ H Q I h => ?_⟩
  obtain ⟨p, F, G, r, M, sr, er, h⟩ := h
  unfold evT evE at h
  exact h.elim
/-- two expressions, then an operation on their values -/
theorem two_step {a b : Ex} {f : D → D → Ar → Res D} {σ : L2.St} {H : Hp} {Q : VK} (h : TEo X.K ca W (fun r M => (evE C a r M).bind fun x M => (evE C b r M).bind fun y M => f x y M) σ H Q) :
    tOp (rV X.K ca f) (TEo X.K ca W (evE C a)) (TEo X.K ca W (evE C b)) σ H Q := by
  obtain ⟨p, F, G, r, M, sr, er, h⟩ := h
  refine ⟨p, F, G, r, M, sr, er, (Tk.bind (rel := RD X.K ca) h).mono fun v H1 ⟨p1, F1, x, M1, a1, b1, s1, r1, _, h1⟩ => ?_⟩
  refine ⟨p1, F1, G, r, M1, s1, er.sub a1 b1, (Tk.bind (rel := RD X.K ca) h1).mono fun w H2 ⟨p2, F2, y, M2, a2, b2, s2, r2, _, h2⟩ => ?_⟩
  exact ⟨p2, F2, G, M2, x, y, W, s2, RD.sub a2 b2 x v r1, r2, h2⟩
theorem s_bin {o : BinK} {mu : Bool} {a b : Ex} {a' b' : Expr} {op : Operator} {pos : Pos} (ho : binB o op = true) (ha : SE ca C X W a a') (hb : SE ca C X W b b') : SE ca C X W (.bin o mu a b) (.BinOp a' op b' pos) := by
  rw [binB_ok ho]
  refine PE.imp (pe_op (op_binV (ca := ca) o mu) ha hb) fun σ H Q h => two_step (h : TEo X.K ca W (fun r M => (evE C a r M).bind fun x M => (evE C b r M).bind fun y M => binV o mu x y M) σ H Q)
theorem s_neg {a : Ex} {a' : Expr} {pos : Pos} (ha : SE ca C X W a a') : SE ca C X W (.neg a) (.UnaryOp .USub a' pos) := by
  refine PE.imp (pe_un un_neg ha) fun σ H Q h => ?_
  obtain ⟨p, F, G, r, M, sr, er, h⟩ := h
  refine ⟨p, F, G, r, M, sr, er, (Tk.bind (rel := RD X.K ca) h).mono fun v H1 ⟨p1, F1, x, M1, a1, b1, s1, r1, _, h1⟩ => ?_⟩
  split at h1
  · exact ⟨_, r1, Tk.ok h1 s1 rfl⟩
  · exact h1.elim
theorem s_cmp (g : Good P fns ca fa fdt C k X N sc W) {o : CmpK} {a b : Ex} {a' b' : Expr} {op : CmpOp} {pos : Pos} (ho : cmpB o op = true) (hm : behindInMarks op b' = false) (ha : SE ca C X W a a') (hb : SE ca C X W b b') : SE ca C X W (.cmp o a b) (.Compare a' [op] [b'] pos) := by
  rw [cmpB_ok ho] at hm ⊢
  exact PE.imp (pe_cmpR (op_cmpV (ca := ca) o g.hu) ha hb hm) fun σ H Q h => two_step (h : TEo X.K ca W (fun r M => (evE C a r M).bind fun x M => (evE C b r M).bind fun y M => cmpV o x y M) σ H Q)
theorem truV_ok {K : PySem.W.Frag} {p : List Addr} {F G : Hp} {M : Ar} {x : D} {v : V} {Q : Bool → Hp → Prop} {H : Hp} (s : SR K ca p F G M H) (r : RD K ca p F x v) (h : Tk K ca (fun _ _ (a b : Bool) => a = b) W G p F (truV x M) Q) : ∃ c, v = .bl c ∧ Q c H := by
  unfold truV at h
  split at h
  · exact ⟨_, r, Tk.ok h s rfl⟩
  · exact h.elim
theorem s_cmpT (g : Good P fns ca fa fdt C k X N sc W) {o : CmpK} {a b : Ex} {a' b' : Expr} {op : CmpOp} {pos : Pos} (ho : cmpB o op = true) (hm : behindInMarks op b' = false) (ha : SE ca C X W a a') (hb : SE ca C X W b b') : ST ca C X W (.cmp o a b) (.Compare a' [op] [b'] pos) := by
  rw [cmpB_ok ho] at hm ⊢
  refine PT.imp (pt_cmpR (op_cmpV (ca := ca) o g.hu) ha hb hm) fun σ H Q h => ?_
  obtain ⟨p, F, G, r, M, sr, er, h⟩ := h
  refine two_step (a := a) (b := b) ⟨p, F, G, r, M, sr, er, (Tk.bind (rel := RD X.K ca) (h : Tk X.K ca _ W G p F (Res.bind ((evE C a r M).bind fun x M => (evE C b r M).bind fun y M => cmpV o x y M) truV) Q)).mono fun v H1 ⟨p1, F1, x, M1, a1, b1, s1, r1, _, h1⟩ => ?_⟩
  exact truV_ok s1 r1 h1
theorem isNB_ok {K : PySem.W.Frag} {p : List Addr} {F : Hp} {yes : Bool} {x : D} {v : V} (r : RD K ca p F x v) : isNB yes x = (if yes then decide (v = .non) else !decide (v = .non)) := by
  have nr : v ≠ .non → (!yes) = (if yes then decide (v = .non) else !decide (v = .non)) := fun h => by cases yes <;> simp [h]
  cases x with
  | t y =>
    cases y with
    | non => cases r; cases yes <;> rfl
    | bl b => cases r; exact nr (by simp)
    | int b => cases r; exact nr (by simp)
    | str b => cases r; exact nr (by simp)
    | tup l => obtain ⟨a, vs, e, _⟩ := r; subst e; exact nr (by simp)
    | lst l => obtain ⟨a, vs, e, _⟩ := r; subst e; exact nr (by simp)
    | scr l => obtain ⟨a, e, _⟩ := r; subst e; exact nr (by simp)
    | dct ks l => obtain ⟨a, us, e, _⟩ := r; subst e; exact nr (by simp)
    | obj c fs l => obtain ⟨a, dx, us, e, _⟩ := r; subst e; exact nr (by simp)
  | ref i => obtain ⟨a, _, e⟩ := r; subst e; exact nr (by simp)
  | tup l => obtain ⟨a, vs, e, _⟩ := r; subst e; exact nr (by simp)
  | lst l => obtain ⟨a, vs, e, _⟩ := r; subst e; exact nr (by simp)
theorem s_isN {yes : Bool} {a : Ex} {a' : Expr} {op : CmpOp} {pos pos' : Pos} {j : Nat} (ho : op = if yes then .Is else .IsNot) (ha : SE ca C X W a a') : SE ca C X W (.isN yes a) (.Compare a' [op] [.Constant .none j pos'] pos) := by
  have down : ∀ σ H Q, TEo X.K ca W (evE C (.isN yes a)) σ H Q → TEo X.K ca W (evE C a) σ H fun v H1 => Q (.bl (if yes then decide (v = .non) else !decide (v = .non))) H1 := fun σ H Q h => by
    obtain ⟨p, F, G, r, M, sr, er, h⟩ := h
    refine ⟨p, F, G, r, M, sr, er, (Tk.bind (rel := RD X.K ca) h).mono fun v H1 ⟨p1, F1, x, M1, a1, b1, s1, r1, _, h1⟩ => ?_⟩
    have := Tk.ok h1 s1 rfl
    rw [isNB_ok r1] at this
    exact this
  cases yes with
  | true =>
    simp only [if_true] at ho
    subst ho
    refine PE.imp (pe_cmp (pc_isN ha)) fun σ H Q h => ?_
    have := down σ H Q h
    simp only [if_true] at this
    exact this
  | false =>
    simp only [Bool.false_eq_true, if_false] at ho
    subst ho
    refine PE.imp (pe_cmp (pc_notN ha)) fun σ H Q h => ?_
    have := down σ H Q h
    simp only [Bool.false_eq_true, if_false] at this
    exact this
theorem s_isNT {yes : Bool} {a : Ex} {a' : Expr} {op : CmpOp} {pos pos' : Pos} {j : Nat} (ho : op = if yes then .Is else .IsNot) (ha : SE ca C X W a a') : ST ca C X W (.isN yes a) (.Compare a' [op] [.Constant .none j pos'] pos) := by
  have down : ∀ σ H Q, TTo X.K ca W (evT C (.isN yes a)) σ H Q → TEo X.K ca W (evE C a) σ H fun v H1 => Q (if yes then decide (v = .non) else !decide (v = .non)) H1 := fun σ H Q h => by
    obtain ⟨p, F, G, r, M, sr, er, h⟩ := h
    have h' : Tk X.K ca (fun _ _ (a b : Bool) => a = b) W G p F (Res.bind ((evE C a r M).bind fun x M => .ok (.t (.bl (isNB yes x))) M) truV) Q := h
    rw [Res.bind_assoc] at h'
    refine ⟨p, F, G, r, M, sr, er, (Tk.bind (rel := RD X.K ca) h').mono fun v H1 ⟨p1, F1, x, M1, a1, b1, s1, r1, _, h1⟩ => ?_⟩
    have := Tk.ok (show Tk X.K ca (fun _ _ (a b : Bool) => a = b) W G p1 F1 (.ok (isNB yes x) M1) Q from h1) s1 rfl
    rw [isNB_ok r1] at this
    exact this
  cases yes with
  | true =>
    simp only [if_true] at ho
    subst ho
    refine PT.imp (pt_cmp (pc_isN ha)) fun σ H Q h => ?_
    have := down σ H Q h
    simp only [if_true] at this
    obtain ⟨p, F, G, r, M, sr, er, h⟩ := this
    exact ⟨p, F, G, r, M, sr, er, h.mono fun v H1 q => ⟨_, rfl, q⟩⟩
  | false =>
    simp only [Bool.false_eq_true, if_false] at ho
    subst ho
    refine PT.imp (pt_cmp (pc_notN ha)) fun σ H Q h => ?_
    have := down σ H Q h
    simp only [Bool.false_eq_true, if_false] at this
    obtain ⟨p, F, G, r, M, sr, er, h⟩ := this
    exact ⟨p, F, G, r, M, sr, er, h.mono fun v H1 q => ⟨_, rfl, q⟩⟩
/-- a chain of two comparisons -/
theorem chain_step {o1 o2 : CmpK} {a b c : Ex} {σ : L2.St} {H : Hp} {Q : VK} (h : TEo X.K ca W (evE C (.chain o1 o2 a b c)) σ H Q) :
    tChain (rV X.K ca (cmpV o1)) (rV X.K ca (cmpV o2)) (TEo X.K ca W (evE C a)) (TEo X.K ca W (evE C b)) (TEo X.K ca W (evE C c)) σ H Q := by
  obtain ⟨p, F, G, r, M, sr, er, h⟩ := h
  refine ⟨p, F, G, r, M, sr, er, (Tk.bind (rel := RD X.K ca) h).mono fun v H1 ⟨p1, F1, x, M1, a1, b1, s1, r1, _, h1⟩ => ?_⟩
  refine ⟨p1, F1, G, r, M1, s1, er.sub a1 b1, (Tk.bind (rel := RD X.K ca) h1).mono fun w H2 ⟨p2, F2, y, M2, a2, b2, s2, r2, _, h2⟩ => ?_⟩
  refine ⟨p2, F2, G, M2, x, y, W, s2, RD.sub a2 b2 x v r1, r2, (Tk.bind (rel := RD X.K ca) h2).mono fun z H3 ⟨p3, F3, zz, M3, a3, b3, s3, r3, _, h3⟩ => ?_⟩
  obtain ⟨kk, e1, p4, F4, k', M4, a4, b4, s4, r4, e4, h4⟩ := truV_ok s3 r3 (Tk.bind (rel := fun _ _ (a b : Bool) => a = b) h3)
  subst e1
  have r4' : k' = kk := r4
  subst r4'
  refine ⟨k', rfl, ?_⟩
  cases k' with
  | true =>
    rw [if_pos rfl]
    refine ⟨p4, F4, G, r, M4, s4, ((er.sub a1 b1).sub (a2.trans a3) (b2.trans b3)).sub a4 b4, (Tk.bind (rel := RD X.K ca) (show Tk X.K ca (RD X.K ca) W G p4 F4 ((evE C c r M4).bind fun u M => cmpV o2 y u M) Q from h4)).mono fun u H5 ⟨p5, F5, uu, M5, a5, b5, s5, r5, _, h5⟩ => ?_⟩
    exact ⟨p5, F5, G, M5, y, uu, W, s5, RD.sub ((a3.trans a4).trans a5) ((b3.trans b4).trans b5) y w r2, r5, h5⟩
  | false =>
    rw [if_neg (by simp)]
    exact Tk.ok (show Tk X.K ca (RD X.K ca) W G p4 F4 (.ok (.t (.bl false)) M4) Q from h4) s4 rfl
theorem s_chain (g : Good P fns ca fa fdt C k X N sc W) {o1 o2 : CmpK} {a b c : Ex} {a' b' c' : Expr} {p1 p2 : CmpOp} {pos : Pos} (h1 : cmpB o1 p1 = true) (h2 : cmpB o2 p2 = true) (hm : lastMarks [p1, p2] [b', c'] = false)
    (ha : SE ca C X W a a') (hb : SE ca C X W b b') (hc : SE ca C X W c c') : SE ca C X W (.chain o1 o2 a b c) (.Compare a' [p1, p2] [b', c'] pos) := by
  rw [cmpB_ok h1, cmpB_ok h2] at hm ⊢
  exact PE.imp (pe_chain (op_cmpV (ca := ca) o1 g.hu) (op_cmpV (ca := ca) o2 g.hu) ha hb hc hm) fun σ H Q h => chain_step h
theorem s_chainT (g : Good P fns ca fa fdt C k X N sc W) {o1 o2 : CmpK} {a b c : Ex} {a' b' c' : Expr} {p1 p2 : CmpOp} {pos : Pos} (h1 : cmpB o1 p1 = true) (h2 : cmpB o2 p2 = true) (hm : lastMarks [p1, p2] [b', c'] = false)
    (ha : SE ca C X W a a') (hb : SE ca C X W b b') (hc : SE ca C X W c c') : ST ca C X W (.chain o1 o2 a b c) (.Compare a' [p1, p2] [b', c'] pos) := by
  rw [cmpB_ok h1, cmpB_ok h2] at hm ⊢
  refine PT.imp (pt_chain (op_cmpV (ca := ca) o1 g.hu) (op_cmpV (ca := ca) o2 g.hu) ha hb hc hm) fun σ H Q h => ?_
  obtain ⟨p, F, G, r, M, sr, er, h⟩ := h
  refine chain_step ⟨p, F, G, r, M, sr, er, (Tk.bind (rel := RD X.K ca) (h : Tk X.K ca _ W G p F ((evE C (.chain o1 o2 a b c) r M).bind truV) Q)).mono fun v H1 ⟨p1, F1, x, M1, a1, b1, s1, r1, _, h1⟩ => ?_⟩
  exact truV_ok s1 r1 h1
/-- a test by its value -/
theorem s_valT {a : Ex} {a' : Expr} (h : plainT a' = true) (ha : SE ca C X W a a') : ST ca C X W a a' := by
  refine PT.imp (pt_val ha (plainT_ok h X.env)) fun σ H Q h => ?_
  obtain ⟨p, F, G, r, M, sr, er, h⟩ := h
  refine ⟨p, F, G, r, M, sr, er, (Tk.bind (rel := RD X.K ca) (h : Tk X.K ca _ W G p F ((evE C a r M).bind truV) Q)).mono fun v H1 ⟨p1, F1, x, M1, a1, b1, s1, r1, _, h1⟩ => ?_⟩
  exact truV_ok s1 r1 h1
end
end Rw
end
section
set_option Elab.async false
set_option linter.all false
set_option maxRecDepth 100000
namespace Rw
open PySem PySem.Spec PyProof.Rows L2
section
variable {K : PySem.W.Frag} {ca : Nat → Addr} {p : List Addr} {F G G' H : Hp} {M : Ar} {W : XK} {α β γ δ : Type} {rel : List Addr → Hp → α → β → Prop} {rel' : List Addr → Hp → γ → δ → Prop}
/-- .. with more in the frame for the first part -/
theorem Tk.bindG {r : Res α} {f : α → Ar → Res γ} {Q : δ → Hp → Prop} (hs : Sub G G') (h : Tk K ca rel' W G p F (r.bind f) Q) :
    Tk K ca rel W G' p F r (fun v H' => ∃ p' F' a M', Pre p p' ∧ Sub F F' ∧ SR K ca p' F' G' M' H' ∧ rel p' F' a v ∧ r = .ok a M' ∧ Tk K ca rel' W G p' F' (f a M') Q) := by
  cases r with
  | ok a M =>
    intro p' F' H' v h1 h2 h3 h4
    refine ⟨p', F', a, M, h1, h2, h3, h4, rfl, ?_⟩
    have h' : Tk K ca rel' W G p F (f a M) Q := h
    cases e : f a M with
    | ok b M2 => rw [e] at h'; exact fun p2 F2 H2 v2 k1 k2 k3 k4 => h' p2 F2 H2 v2 (h1.trans k1) (h2.trans k2) k3 k4
    | exc c fs M2 => rw [e] at h'; exact fun p2 F2 H2 v2 d2 k1 k2 k3 k4 => h' p2 F2 H2 v2 d2 (h1.trans k1) (h2.trans k2) k3 k4
    | stuck => rw [e] at h'; exact h'
  | exc c fs M => exact fun p' F' H' cls d h1 h2 h3 h4 => h p' F' H' cls d h1 h2 (h3.lessG hs) h4
  | stuck => exact h
theorem Tk.pre {p' : List Addr} {F' : Hp} {r : Res α} {Q : β → Hp → Prop} (h : Tk K ca rel W G p F r Q) (n : Pre p p') (m : Sub F F') : Tk K ca rel W G p' F' r Q := by
  cases r with
  | ok a M => exact fun p2 F2 H' v k1 k2 k3 k4 => h p2 F2 H' v (n.trans k1) (m.trans k2) k3 k4
  | exc c fs M => exact fun p2 F2 H' v d k1 k2 k3 k4 => h p2 F2 H' v d (n.trans k1) (m.trans k2) k3 k4
  | stuck => exact h
/-- a thing of the frame has changed -/
theorem SR.setG {a : Addr} {o o' : HO} (s : SR K ca p F (upd G a o) M H) : SR K ca p F (upd G a o') M (upd H a o') := by
  have nf : F a = none := by
    rcases s.fg a with h | h
    · exact h
    · rw [upd_same] at h; cases h
  have np : a ∉ p := fun h => by have := s.pg a h; rw [upd_same] at this; cases this
  refine ⟨s.len, s.nd, fun b u e => ?_, fun b u e => ?_, fun b => ?_, s.pf, fun b hb => ?_, fun i b u e1 e2 => ?_⟩
  · rw [upd_ne (ne_of_none e nf)]; exact s.fr b u e
  · by_cases h : b = a
    · subst h; rw [upd_same] at e ⊢; exact e
    · rw [upd_ne h] at e ⊢
      exact s.gr b u (by rw [upd_ne h]; exact e)
  · by_cases h : b = a
    · subst h; exact .inl nf
    · rw [upd_ne h]
      rcases s.fg b with z | z
      · exact .inl z
      · rw [upd_ne h] at z; exact .inr z
  · have h : b ≠ a := fun e => np (e ▸ hb)
    rw [upd_ne h]
    have := s.pg b hb
    rw [upd_ne h] at this; exact this
  · have hb : b ≠ a := fun e => np (e ▸ List.mem_of_getElem? e1)
    exact (s.ob i b u e1 e2).sub (Pre.refl _) (Sub.refl _) (by rw [upd_ne hb])
end
section
variable {P : Pg} {fns : Nat → Option Fn} {ca fa : Nat → Addr} {fdt : Nat → FuncData} {C : Cal} {k : Nat} {X : Cx} {N : List Str} {sc : Scope} {W : XK}
theorem s_one {op : BoolOp} {a : Ex} {a' : Expr} {pos : Pos} (ha : SE ca C X W a a') : PE X (.BoolOp op [a'] pos) (TEo X.K ca W (evE C a)) := pe_one ha
theorem s_and {a b : Ex} {es : List Ex} {a' b' : Expr} {es' : List Expr} {pos : Pos} (ha : SE ca C X W a a') (hb : PE X (.BoolOp .And (b' :: es') pos) (TEo X.K ca W (evAnd C (b :: es)))) : PE X (.BoolOp .And (a' :: b' :: es') pos) (TEo X.K ca W (evAnd C (a :: b :: es))) := by
  refine PE.imp (pe_and ha hb) fun σ H Q h => ?_
  obtain ⟨p, F, G, r, M, sr, er, h⟩ := h
  refine ⟨p, F, G, r, M, sr, er, (Tk.bind (rel := RD X.K ca) h).mono fun v H1 ⟨p1, F1, x, M1, a1, b1, s1, r1, _, h1⟩ => ?_⟩
  obtain ⟨kk, e1, p4, F4, k', M4, a4, b4, s4, r4, e4, h4⟩ := truV_ok s1 r1 (Tk.bind (rel := fun _ _ (a b : Bool) => a = b) h1)
  have r4' : k' = kk := r4
  subst r4'
  refine ⟨k', e1, ?_⟩
  cases k' with
  | true => rw [if_pos rfl]; exact ⟨p4, F4, G, r, M4, s4, (er.sub a1 b1).sub a4 b4, h4⟩
  | false => rw [if_neg (by simp)]; exact Tk.ok (show Tk X.K ca (RD X.K ca) W G p4 F4 (.ok (.t (.bl false)) M4) Q from h4) s4 rfl
theorem s_or {a b : Ex} {es : List Ex} {a' b' : Expr} {es' : List Expr} {pos : Pos} (ha : SE ca C X W a a') (hb : PE X (.BoolOp .Or (b' :: es') pos) (TEo X.K ca W (evOr C (b :: es)))) : PE X (.BoolOp .Or (a' :: b' :: es') pos) (TEo X.K ca W (evOr C (a :: b :: es))) := by
  refine PE.imp (pe_or ha hb) fun σ H Q h => ?_
  obtain ⟨p, F, G, r, M, sr, er, h⟩ := h
  refine ⟨p, F, G, r, M, sr, er, (Tk.bind (rel := RD X.K ca) h).mono fun v H1 ⟨p1, F1, x, M1, a1, b1, s1, r1, _, h1⟩ => ?_⟩
  obtain ⟨kk, e1, p4, F4, k', M4, a4, b4, s4, r4, e4, h4⟩ := truV_ok s1 r1 (Tk.bind (rel := fun _ _ (a b : Bool) => a = b) h1)
  have r4' : k' = kk := r4
  subst r4'
  refine ⟨k', e1, ?_⟩
  cases k' with
  | false => rw [if_neg (by simp)]; exact ⟨p4, F4, G, r, M4, s4, (er.sub a1 b1).sub a4 b4, h4⟩
  | true => rw [if_pos rfl]; exact Tk.ok (show Tk X.K ca (RD X.K ca) W G p4 F4 (.ok (.t (.bl true)) M4) Q from h4) s4 rfl
theorem s_not {a : Ex} {a' : Expr} {pos : Pos} (ha : SE ca C X W a a') : SE ca C X W (.not a) (.UnaryOp .Not a' pos) := by
  refine PE.imp (pe_not ha) fun σ H Q h => ?_
  obtain ⟨p, F, G, r, M, sr, er, h⟩ := h
  refine ⟨p, F, G, r, M, sr, er, (Tk.bind (rel := RD X.K ca) h).mono fun v H1 ⟨p1, F1, x, M1, a1, b1, s1, r1, _, h1⟩ => ?_⟩
  obtain ⟨kk, e1, p4, F4, k', M4, a4, b4, s4, r4, e4, h4⟩ := truV_ok s1 r1 (Tk.bind (rel := fun _ _ (a b : Bool) => a = b) h1)
  have r4' : k' = kk := r4
  subst r4'
  exact ⟨k', e1, Tk.ok h4 s4 rfl⟩
/-- the tests -/
theorem s_oneTA {a : Ex} {a' : Expr} {pos : Pos} (ha : ST ca C X W a a') : PW X (.BoolOp .And [a'] pos) (TTo X.K ca W (fun r M => (evAnd C [a] r M).bind truV)) := pw_and1 ha
theorem s_oneTO {a : Ex} {a' : Expr} {pos : Pos} (ha : ST ca C X W a a') : PW X (.BoolOp .Or [a'] pos) (TTo X.K ca W (fun r M => (evOr C [a] r M).bind truV)) := pw_or1 ha
theorem tru_split {a : Ex} {f : Bool → Ar → Res D} {r : En} {M : Ar} : Res.bind ((evE C a r M).bind fun x M => (truV x M).bind f) truV = (evT C a r M).bind fun k M => (f k M).bind truV := by
  unfold evT
  rw [Res.bind_assoc, Res.bind_assoc]
  congr 1
  funext x M
  rw [Res.bind_assoc]
theorem s_andT {a b : Ex} {es : List Ex} {a' b' : Expr} {es' : List Expr} {pos : Pos} (ha : ST ca C X W a a') (hb : PW X (.BoolOp .And (b' :: es') pos) (TTo X.K ca W (fun r M => (evAnd C (b :: es) r M).bind truV))) :
    PW X (.BoolOp .And (a' :: b' :: es') pos) (TTo X.K ca W (fun r M => (evAnd C (a :: b :: es) r M).bind truV)) := by
  refine PW.imp (pw_and ha hb) fun σ H Q h => ?_
  obtain ⟨p, F, G, r, M, sr, er, h⟩ := h
  have h' : Tk X.K ca (fun _ _ (a b : Bool) => a = b) W G p F (Res.bind ((evE C a r M).bind fun x M => (truV x M).bind fun k M => match k with | true => evAnd C (b :: es) r M | false => .ok (.t (.bl false)) M) truV) Q := h
  rw [tru_split] at h'
  refine ⟨p, F, G, r, M, sr, er, (Tk.bind (rel := fun _ _ (a b : Bool) => a = b) h').mono fun c H1 ⟨p1, F1, x, M1, a1, b1, s1, r1, _, h1⟩ => ?_⟩
  have r1' : x = c := r1
  subst r1'
  cases x with
  | true => rw [if_pos rfl]; exact ⟨p1, F1, G, r, M1, s1, er.sub a1 b1, h1⟩
  | false => rw [if_neg (by simp)]; exact Tk.ok (show Tk X.K ca (fun _ _ (a b : Bool) => a = b) W G p1 F1 (.ok false M1) Q from h1) s1 rfl
theorem s_orT {a b : Ex} {es : List Ex} {a' b' : Expr} {es' : List Expr} {pos : Pos} (ha : ST ca C X W a a') (hb : PW X (.BoolOp .Or (b' :: es') pos) (TTo X.K ca W (fun r M => (evOr C (b :: es) r M).bind truV))) :
    PW X (.BoolOp .Or (a' :: b' :: es') pos) (TTo X.K ca W (fun r M => (evOr C (a :: b :: es) r M).bind truV)) := by
  refine PW.imp (pw_or ha hb) fun σ H Q h => ?_
  obtain ⟨p, F, G, r, M, sr, er, h⟩ := h
  have h' : Tk X.K ca (fun _ _ (a b : Bool) => a = b) W G p F (Res.bind ((evE C a r M).bind fun x M => (truV x M).bind fun k M => match k with | true => .ok (.t (.bl true)) M | false => evOr C (b :: es) r M) truV) Q := h
  rw [tru_split] at h'
  refine ⟨p, F, G, r, M, sr, er, (Tk.bind (rel := fun _ _ (a b : Bool) => a = b) h').mono fun c H1 ⟨p1, F1, x, M1, a1, b1, s1, r1, _, h1⟩ => ?_⟩
  have r1' : x = c := r1
  subst r1'
  cases x with
  | false => rw [if_neg (by simp)]; exact ⟨p1, F1, G, r, M1, s1, er.sub a1 b1, h1⟩
  | true => rw [if_pos rfl]; exact Tk.ok (show Tk X.K ca (fun _ _ (a b : Bool) => a = b) W G p1 F1 (.ok true M1) Q from h1) s1 rfl
theorem s_notT {a : Ex} {a' : Expr} {pos : Pos} (ha : ST ca C X W a a') : ST ca C X W (.not a) (.UnaryOp .Not a' pos) := by
  refine PT.imp (pt_not ha) fun σ H Q h => ?_
  obtain ⟨p, F, G, r, M, sr, er, h⟩ := h
  have h' : Tk X.K ca (fun _ _ (a b : Bool) => a = b) W G p F (Res.bind ((evE C a r M).bind fun x M => (truV x M).bind fun k M => .ok (.t (.bl (!k))) M) truV) Q := h
  rw [tru_split] at h'
  refine ⟨p, F, G, r, M, sr, er, (Tk.bind (rel := fun _ _ (a b : Bool) => a = b) h').mono fun c H1 ⟨p1, F1, x, M1, a1, b1, s1, r1, _, h1⟩ => ?_⟩
  have r1' : x = c := r1
  subst r1'
  exact Tk.ok (show Tk X.K ca (fun _ _ (a b : Bool) => a = b) W G p1 F1 (.ok (!x) M1) Q from h1) s1 rfl
theorem s_ife {c a b : Ex} {c' a' b' : Expr} {pos : Pos} (hc : ST ca C X W c c') (ha : SE ca C X W a a') (hb : SE ca C X W b b') : SE ca C X W (.ife c a b) (.IfExp c' a' b' pos) := by
  refine PE.imp (pe_ifExp hc ha hb) fun σ H Q h => ?_
  obtain ⟨p, F, G, r, M, sr, er, h⟩ := h
  refine ⟨p, F, G, r, M, sr, er, (Tk.bind (rel := fun _ _ (a b : Bool) => a = b) (show Tk X.K ca (RD X.K ca) W G p F ((evT C c r M).bind fun k M => match k with | true => evE C a r M | false => evE C b r M) Q from h)).mono fun kk H1 ⟨p1, F1, x, M1, a1, b1, s1, r1, _, h1⟩ => ?_⟩
  have r1' : x = kk := r1
  subst r1'
  cases x with
  | true => rw [if_pos rfl]; exact ⟨p1, F1, G, r, M1, s1, er.sub a1 b1, h1⟩
  | false => rw [if_neg (by simp)]; exact ⟨p1, F1, G, r, M1, s1, er.sub a1 b1, h1⟩
theorem s_nil : SA ca C X W [] [] := by
  refine PA.imp pa_nil fun σ H Q h => ?_
  obtain ⟨p, F, G, r, M, sr, er, h⟩ := h
  exact Tk.ok h sr rfl
theorem s_cons {a : Ex} {es : List Ex} {a' : Expr} {es' : List Expr} (hs : noStar a' = true) (ha : SE ca C X W a a') (hb : SA ca C X W es es') : SA ca C X W (a :: es) (a' :: es') := by
  refine PA.imp (pa_cons ha hb (noStar_ok hs _ _)) fun σ H Q h => ?_
  obtain ⟨p, F, G, r, M, sr, er, h⟩ := h
  refine ⟨p, F, G, r, M, sr, er, (Tk.bind (rel := RD X.K ca) h).mono fun v H1 ⟨p1, F1, x, M1, a1, b1, s1, r1, _, h1⟩ => ?_⟩
  refine ⟨p1, F1, G, r, M1, s1, er.sub a1 b1, (Tk.bind (rel := RDs X.K ca) h1).mono fun vs H2 ⟨p2, F2, xs, M2, a2, b2, s2, r2, _, h2⟩ => ?_⟩
  exact Tk.ok h2 s2 ⟨v, vs, rfl, RD.sub a2 b2 x v r1, r2⟩
theorem s_list {mu : Bool} {es : List Ex} {es' : List Expr} {pos : Pos} (ha : SA ca C X W es es') : SE ca C X W (.list mu es) (.List es' pos) := by
  refine PE.imp (pe_lst ha) fun σ H Q h => ?_
  obtain ⟨p, F, G, r, M, sr, er, h⟩ := h
  refine ⟨p, F, G, r, M, sr, er, (Tk.bind (rel := RDs X.K ca) h).mono fun vs H1 ⟨p1, F1, xs, M1, a1, b1, s1, r1, _, h1⟩ => ?_⟩
  obtain ⟨z1, z2⟩ := Tk.okIf h1
  have z3 := of_decide_eq_true z1
  rw [r1.length, line_eq] at z3
  exact ⟨z3, fun q hq => mkL_ok s1 r1 z2 hq⟩
theorem s_tuple {es : List Ex} {es' : List Expr} {j : Nat} {pos : Pos} (ha : SA ca C X W es es') : SE ca C X W (.tuple es) (.Tuple es' j pos) := by
  refine PE.imp (pe_tup ha) fun σ H Q h => ?_
  obtain ⟨p, F, G, r, M, sr, er, h⟩ := h
  refine ⟨p, F, G, r, M, sr, er, (Tk.bind (rel := RDs X.K ca) h).mono fun vs H1 ⟨p1, F1, xs, M1, a1, b1, s1, r1, _, h1⟩ => ?_⟩
  obtain ⟨z1, z2⟩ := Tk.okIf h1
  have z3 := of_decide_eq_true z1
  rw [r1.length, line_eq] at z3
  exact ⟨z3, fun q hq => mkT_ok s1 r1 z2 hq⟩
theorem s_idx (g : Good P fns ca fa fdt C k X N sc W) {a b : Ex} {a' b' : Expr} {pos : Pos} (hs : noSlice b' = true) (ha : SE ca C X W a a') (hb : SE ca C X W b b') : SE ca C X W (.idx a b) (.Subscript a' b' pos) :=
  PE.imp (pe_ix (ix_V (ca := ca) g.hu) ha hb (noSlice_ok hs)) fun σ H Q h => two_step (h : TEo X.K ca W (fun r M => (evE C a r M).bind fun x M => (evE C b r M).bind fun y M => idxV x y M) σ H Q)
def TOo (K : PySem.W.Frag) (ca : Nat → Addr) (W : XK) (f : En → Ar → Res (Option Int)) : TO := fun σ H Q => ∃ p F G r M, SR K ca p F G M H ∧ ER K ca p F r σ ∧ Tk K ca (fun _ _ (a b : Option Int) => a = b) W G p F (f r M) Q
theorem PO.imp {e : Option Expr} {t t' : TO} (h : PO X e t) (k : ∀ σ H Q, t' σ H Q → t σ H Q) : PO X e t' := ⟨fun pins s σ H Q I q => h.run pins s σ H Q I (k σ H Q q)⟩
theorem s_pnone : PO X none (TOo X.K ca W (evO C none)) := by
  refine PO.imp po_none fun σ H Q h => ?_
  obtain ⟨p, F, G, r, M, sr, er, h⟩ := h
  exact Tk.ok h sr rfl
theorem s_psome {a : Ex} {a' : Expr} (ha : SE ca C X W a a') : PO X (some a') (TOo X.K ca W (evO C (some a))) := by
  refine PO.imp (po_some ha) fun σ H Q h => ?_
  obtain ⟨p, F, G, r, M, sr, er, h⟩ := h
  refine ⟨p, F, G, r, M, sr, er, (Tk.bind (rel := RD X.K ca) h).mono fun v H1 ⟨p1, F1, x, M1, a1, b1, s1, r1, _, h1⟩ => ?_⟩
  split at h1
  · exact ⟨_, r1, Tk.ok h1 s1 rfl⟩
  · exact h1.elim
theorem s_slc {mu : Bool} {a : Ex} {lo hi : Option Ex} {a' : Expr} {lo' hi' : Option Expr} {pos p2 : Pos} (ha : SE ca C X W a a') (hl : PO X lo' (TOo X.K ca W (evO C lo))) (hh : PO X hi' (TOo X.K ca W (evO C hi))) :
    SE ca C X W (.slc mu a lo hi) (.Subscript a' (.Slice lo' hi' none p2) pos) := by
  refine PE.imp (pe_slice (sl_V (ca := ca) mu) ha hl hh) fun σ H Q h => ?_
  obtain ⟨p, F, G, r, M, sr, er, h⟩ := h
  refine ⟨p, F, G, r, M, sr, er, (Tk.bind (rel := RD X.K ca) h).mono fun v H1 ⟨p1, F1, x, M1, a1, b1, s1, r1, _, h1⟩ => ?_⟩
  refine ⟨p1, F1, G, r, M1, s1, er.sub a1 b1, (Tk.bind (rel := fun _ _ (a b : Option Int) => a = b) h1).mono fun l H2 ⟨p2, F2, l2, M2, a2, b2, s2, r2, _, h2⟩ => ?_⟩
  refine ⟨p2, F2, G, r, M2, s2, (er.sub a1 b1).sub a2 b2, (Tk.bind (rel := fun _ _ (a b : Option Int) => a = b) h2).mono fun u H3 ⟨p3, F3, u2, M3, a3, b3, s3, r3, _, h3⟩ => ?_⟩
  have e2 : l2 = l := r2
  have e3 : u2 = u := r3
  subst e2 e3
  exact ⟨p3, F3, G, M3, x, W, s3, RD.sub (a2.trans a3) (b2.trans b3) x v r1, h3⟩
theorem bi_step {f : BiK} {es : List Ex} {σ : L2.St} {H : Hp} {Q : VK} (h : TEo X.K ca W (evE C (.bi f es)) σ H Q) : tCB (rC X.K ca f) (TAo X.K ca W (evEs C es)) σ H Q := by
  obtain ⟨p, F, G, r, M, sr, er, h⟩ := h
  refine ⟨p, F, G, r, M, sr, er, (Tk.bind (rel := RDs X.K ca) h).mono fun vs H1 ⟨p1, F1, xs, M1, a1, b1, s1, r1, _, h1⟩ => ?_⟩
  exact ⟨p1, F1, G, M1, xs, W, s1, r1, h1⟩
theorem s_biB (g : Good P fns ca fa fdt C k X N sc W) {f : BiK} {x : Str} {id : String} {a : Ex} {es : List Ex} {a' : Expr} {es' : List Expr} {pp pos : Pos} (hr : CallR X (.builtin id) (rC X.K ca f)) (hf : x ∈ (["len", "int", "list", "tuple", "isinstance", "bool", "min", "max", "range", "enumerate", "str", "sum", "dict", "zip", "sorted", "set"] : List Str)) (hv : bootBuiltins x = some (.builtin id)) (hg : glB sc x = true)
    (hs : (a' :: es').all noStar = true) (ha : SA ca C X W (a :: es) (a' :: es')) : SE ca C X W (.bi f (a :: es)) (.Call (.Name x pp) (a' :: es') [] pos) := by
  obtain ⟨g1, g2, g3⟩ := g.gl hg
  simp only [List.all_cons, Bool.and_eq_true] at hs
  exact PE.imp (pe_callB hr g1 (g.fx.free x hf) hv ha g3 g2 (noStar_ok hs.1 _ _) (star_any hs.2)) fun σ H Q h => bi_step h
theorem s_biT (g : Good P fns ca fa fdt C k X N sc W) {f : BiK} {x : Str} {id : String} {a : Ex} {es : List Ex} {a' : Expr} {es' : List Expr} {pp pos : Pos} (hr : CallR X (.type id) (rC X.K ca f)) (hf : x ∈ (["len", "int", "list", "tuple", "isinstance", "bool", "min", "max", "range", "enumerate", "str", "sum", "dict", "zip", "sorted", "set"] : List Str)) (hv : bootBuiltins x = some (.type id)) (hg : glB sc x = true)
    (hs : (a' :: es').all noStar = true) (ha : SA ca C X W (a :: es) (a' :: es')) : SE ca C X W (.bi f (a :: es)) (.Call (.Name x pp) (a' :: es') [] pos) := by
  obtain ⟨g1, g2, g3⟩ := g.gl hg
  simp only [List.all_cons, Bool.and_eq_true] at hs
  exact PE.imp (pe_callTy hr g1 (g.fx.free x hf) hv ha g3 g2 (noStar_ok hs.1 _ _) (star_any hs.2)) fun σ H Q h => bi_step h
/-- isinstance(e, T) -/
theorem s_isi (g : Good P fns ca fa fdt C k X N sc W) {f : BiK} {T : String} {Tx : Str} {a : Ex} {a' : Expr} {pp pt pos : Pos} (hT : ∀ t : Ty, kitB t.name T = some (isTy f t)) (hbi : ∀ d M, biV f [d] M = isV f d M) (hfT : Tx ∈ (["len", "int", "list", "tuple", "isinstance", "bool", "min", "max", "range", "enumerate", "str", "sum", "dict", "zip", "sorted", "set"] : List Str)) (hvT : bootBuiltins Tx = some (.type T)) (hgT : glB sc Tx = true) (hg : glB sc "isinstance" = true)
    (hs : noStar a' = true) (ha : SE ca C X W a a') : SE ca C X W (.bi f [a]) (.Call (.Name "isinstance" pp) [a', .Name Tx pt] [] pos) := by
  obtain ⟨g1, g2, g3⟩ := g.gl hg
  obtain ⟨t1, t2, t3⟩ := g.gl hgT
  refine PE.imp (pe_callB call_isi g1 (g.fx.free "isinstance" (by decide)) PyProof.Rows.boot_isinstance (pa_cons ha (pa_cons (pe_bltn (v := .ty T) t1 (g.fx.free Tx hfT) hvT rfl t3 t2) pa_nil) (noStar_ok hs _ _)) g3 g2 (noStar_ok hs _ _) rfl) fun σ H Q h => ?_
  obtain ⟨p, F, G, r, M, sr, er, h⟩ := h
  have h' : Tk X.K ca (RD X.K ca) W G p F (((evE C a r M).bind fun d M => .ok [d] M).bind fun ds M => biV f ds M) Q := h
  rw [Res.bind_assoc] at h'
  refine ⟨p, F, G, r, M, sr, er, (Tk.bind (rel := RD X.K ca) h').mono fun v H1 ⟨p1, F1, x, M1, a1, b1, s1, r1, _, h1⟩ => ?_⟩
  have h2 : Tk X.K ca (RD X.K ca) W G p1 F1 (biV f [x] M1) Q := h1
  rw [hbi] at h2
  unfold isV at h2
  cases q : tyD M1 x with
  | none => simp only [q] at h2; exact h2.elim
  | some t =>
    simp only [q] at h2
    exact ⟨v, .ty T, .type t.name, .type T, isTy f t, rfl, .ty T, tyD_ok s1 r1 q, kit_ty (hT t), Tk.ok h2 s1 rfl⟩
/-- isinstance(e, (tuple, list)) -/
theorem s_isiT (g : Good P fns ca fa fdt C k X N sc W) {a : Ex} {a' : Expr} {pp p1' p2' pt pos : Pos} {j : Nat} (h1g : glB sc "tuple" = true) (h2g : glB sc "list" = true) (hg : glB sc "isinstance" = true)
    (hs : noStar a' = true) (ha : SE ca C X W a a') : SE ca C X W (.bi .isSeq [a]) (.Call (.Name "isinstance" pp) [a', .Tuple [.Name "tuple" p1', .Name "list" p2'] j pt] [] pos) := by
  obtain ⟨g1, g2, g3⟩ := g.gl hg
  obtain ⟨t1, t2, t3⟩ := g.gl h1g
  obtain ⟨l1, l2, l3⟩ := g.gl h2g
  refine PE.imp (pe_callB call_isiT g1 (g.fx.free "isinstance" (by decide)) PyProof.Rows.boot_isinstance (pa_cons ha (pa_cons (pe_tup (pa_cons (pe_bltn (v := .ty "tuple") t1 (g.fx.free "tuple" (by decide)) PyProof.Rows.boot_tuple rfl t3 t2)
    (pa_cons (pe_bltn (v := .ty "list") l1 (g.fx.free "list" (by decide)) PyProof.Rows.boot_list rfl l3 l2) pa_nil))) pa_nil) (noStar_ok hs _ _)) g3 g2 (noStar_ok hs _ _) rfl) fun σ H Q h => ?_
  obtain ⟨p, F, G, r, M, sr, er, h⟩ := h
  have h' : Tk X.K ca (RD X.K ca) W G p F (((evE C a r M).bind fun d M => .ok [d] M).bind fun ds M => biV .isSeq ds M) Q := h
  rw [Res.bind_assoc] at h'
  refine ⟨p, F, G, r, M, sr, er, (Tk.bind (rel := RD X.K ca) h').mono fun v H1 ⟨p1, F1, x, M1, a1, b1, s1, r1, _, h1⟩ => ?_⟩
  have h2 : Tk X.K ca (RD X.K ca) W G p1 F1 (isV .isSeq x M1) Q := h1
  unfold isV at h2
  cases q : tyD M1 x with
  | none => simp only [q] at h2; exact h2.elim
  | some t =>
    simp only [q] at h2
    refine ⟨by show 2 ≤ sizeLine; decide, fun tp hp => ?_⟩
    have s2 := s1.grow (upd_grow (o := .tup [.ty "tuple", .ty "list"]) hp)
    exact ⟨v, tp, [.ty "tuple", .ty "list"], .type t.name, [.type "tuple", .type "list"], isTy .isSeq t, rfl, upd_same, .cons (.ty _) (.cons (.ty _) .nil), tyD_ok s2 r1 q, kit_seq t, Tk.ok h2 s2 rfl⟩
theorem me_ty {p : List Addr} {F G H : Hp} {M : Ar} {d : D} {v : V} (s : SR X.K ca p F G M H) (r : RD X.K ca p F d v) (h : isLst M d = true) : tyV X.K "list" v H := by
  unfold isLst at h
  cases q : lsOf M d with
  | none => simp only [q] at h; cases h
  | some l =>
    obtain ⟨a, vs, e, k1, _⟩ := lsOf_ok s r q
    subst e
    exact .inl ⟨rfl, vs, SqL.of k1⟩
theorem s_me {m : MeK} {name : Str} {id : String} {o a : Ex} {es : List Ex} {o' a' : Expr} {es' : List Expr} {apos cpos : Pos} (slot : Slot "list" name id) (hty : typeOf (.builtin id) = pure (.type "method_descriptor")) (hm : MtM X id (rM X.K ca m))
    (hb : noSuper o' = true) (hl : (apos.endLine == cpos.line) = true) (hn : decide ((a' :: es').length < 30) = true) (hs : (a' :: es').all noStar = true) (ho : SE ca C X W o o') (ha : SA ca C X W (a :: es) (a' :: es')) :
    SE ca C X W (.me m o (a :: es)) (.Call (.Attribute o' name apos) (a' :: es') [] cpos) := by
  have hs' := hs
  simp only [List.all_cons, Bool.and_eq_true] at hs
  refine PE.imp (pe_bm PySem.F.plainAttrs_list slot hty hm ho ha (noSuper_ok hb _ _) ?_ hl (noStar_ok hs.1 _ _) (star_any hs.2)) fun σ H Q h => ?_
  · have e1 : (backTo cpos (starEach (a' :: es') X.env)).all (fun x => !x.1) = true := star_all hs'
    have e2 : backToKw cpos (keywordEach [] X.env) = [] := rfl
    rw [e1, e2]
    simpa using hn
  · obtain ⟨p, F, G, r, M, sr, er, h⟩ := h
    refine ⟨p, F, G, r, M, sr, er, (Tk.bind (rel := RD X.K ca) h).mono fun v H1 ⟨p1, F1, x, M1, a1, b1, s1, r1, _, h1⟩ => ?_⟩
    obtain ⟨z1, z2⟩ := Tk.okIf h1
    refine ⟨me_ty s1 r1 z1, p1, F1, G, r, M1, s1, er.sub a1 b1, (Tk.bind (rel := RDs X.K ca) z2).mono fun vs H2 ⟨p2, F2, xs, M2, a2, b2, s2, r2, _, h2⟩ => ?_⟩
    exact ⟨p2, F2, G, M2, x, xs, W, s2, RD.sub a2 b2 x v r1, r2, h2⟩
theorem s_me0 {m : MeK} {name : Str} {id : String} {o : Ex} {o' : Expr} {apos cpos : Pos} (slot : Slot "list" name id) (hty : typeOf (.builtin id) = pure (.type "method_descriptor")) (hm : MtM X id (rM X.K ca m))
    (hb : noSuper o' = true) (hl : (apos.endLine == cpos.line) = true) (ho : SE ca C X W o o') : SE ca C X W (.me m o []) (.Call (.Attribute o' name apos) [] [] cpos) := by
  refine PE.imp (pe_bm0 PySem.F.plainAttrs_list slot hty hm ho (noSuper_ok hb _ _) hl) fun σ H Q h => ?_
  obtain ⟨p, F, G, r, M, sr, er, h⟩ := h
  refine ⟨p, F, G, r, M, sr, er, (Tk.bind (rel := RD X.K ca) h).mono fun v H1 ⟨p1, F1, x, M1, a1, b1, s1, r1, _, h1⟩ => ?_⟩
  obtain ⟨z1, z2⟩ := Tk.okIf h1
  exact ⟨me_ty s1 r1 z1, p1, F1, G, M1, x, [], W, s1, r1, rfl, z2⟩
theorem call_step (g : Good P fns ca fa fdt C k X N sc W) {m : Md} {f n : Nat} {es : List Ex} {σ : L2.St} {H : Hp} {Q : VK} (hn : es.length = n) (h : TEo X.K ca W (evE C (.call m f es)) σ H Q) : tCall (spF X.K ca C f n) [] W (TAo X.K ca W (evEs C es)) σ H Q := by
  obtain ⟨p, F, G, r, M, sr, er, h⟩ := h
  refine ⟨p, F, G, r, M, sr, er, (Tk.bind (rel := RDs X.K ca) h).mono fun vs H1 ⟨p1, F1, xs, M1, a1, b1, s1, r1, e1, h1⟩ => ?_⟩
  show spF X.K ca C f n (vs ++ []) H1 Q W
  rw [List.append_nil]
  exact callV_ok (by rw [← r1.length, evEs_len e1, hn]) s1 r1 h1
where
  evEs_len : ∀ {es : List Ex} {r : En} {M : Ar} {xs : List D} {M1 : Ar}, evEs C es r M = .ok xs M1 → xs.length = es.length
    | [], r, M, xs, M1, h => by unfold evEs at h; cases h; rfl
    | e :: es, r, M, xs, M1, h => by
      unfold evEs at h
      cases q : evE C e r M with
      | ok d M2 =>
        rw [q] at h
        have h2 : (evEs C es r M2).bind (fun ds M => Res.ok (d :: ds) M) = .ok xs M1 := h
        cases q2 : evEs C es r M2 with
        | ok ds M3 =>
          rw [q2] at h2
          have h3 : Res.ok (d :: ds) M3 = .ok xs M1 := h2
          cases h3
          rw [List.length_cons, List.length_cons, evEs_len q2]
        | exc _ _ _ => rw [q2] at h2; cases h2
        | stuck => rw [q2] at h2; cases h2
      | exc _ _ _ => rw [q] at h; cases h
      | stuck => rw [q] at h; cases h
theorem s_call (g : Good P fns ca fa fdt C k X N sc W) {m : Md} {f : Nat} {fn : Fn} {x : Str} {a : Ex} {es : List Ex} {a' : Expr} {es' : List Expr} {pp pos : Pos} (hf : fns f = some fn) (hn : decide ((a :: es).length = fn.np) = true) (hx : (f, x) ∈ P.gname) (hg : glB sc x = true)
    (hs : (a' :: es').all noStar = true) (ha : SA ca C X W (a :: es) (a' :: es')) : SE ca C X W (.call m f (a :: es)) (.Call (.Name x pp) (a' :: es') [] pos) := by
  obtain ⟨g1, g2, g3⟩ := g.gl hg
  obtain ⟨m1, m2⟩ := g.fx.gnm f x hx
  simp only [List.all_cons, Bool.and_eq_true] at hs
  exact PE.imp (pe_call (g.fns f fn hf) (g.room.mono (Nat.le_succ _)) g1 m1 m2 (g.fx.bnd f fn hf) .nil g.passes ha g2 (noStar_ok hs.1 _ _) (star_any hs.2)) fun σ H Q h => call_step g (of_decide_eq_true hn) h
theorem s_call0 (g : Good P fns ca fa fdt C k X N sc W) {m : Md} {f : Nat} {fn : Fn} {x : Str} {pp pos : Pos} (hf : fns f = some fn) (hn : decide (0 = fn.np) = true) (hx : (f, x) ∈ P.gname) (hg : glB sc x = true) : SE ca C X W (.call m f []) (.Call (.Name x pp) [] [] pos) := by
  obtain ⟨g1, g2, g3⟩ := g.gl hg
  obtain ⟨m1, m2⟩ := g.fx.gnm f x hx
  refine PE.imp (pe_call0 (g.fns f fn hf) (g.room.mono (Nat.le_succ _)) g1 m1 m2 (g.fx.bnd f fn hf) .nil g.passes g2) fun σ H Q h => ?_
  obtain ⟨p, F, G, r, M, sr, er, h⟩ := h
  exact callV_ok (of_decide_eq_true hn) sr (show RDs X.K ca p F [] [] from rfl) h
theorem methB_ok {p : List Addr} {F G H : Hp} {M : Ar} {d : D} {v : V} {c : Nat} {m : Str} (s : SR X.K ca p F G M H) (r : RD X.K ca p F d v) (h : methB M c m d = true) : ∃ a dx fs, v = .ref a ∧ H a = some (.ins (ca c) dx fs) ∧ fs.lookup m = none := by
  unfold methB at h
  cases q : objOf M c d with
  | none => simp only [q] at h; cases h
  | some fs =>
    simp only [q] at h
    obtain ⟨i, a, dx, vs, _, _, e2, _, e4, e5⟩ := objOf_ok s r q
    refine ⟨a, dx, vs, e2, e4, (look_fld (f := m) e5).2 ?_⟩
    cases q2 : fs.lookup m with
    | none => rfl
    | some z => simp only [q2] at h; cases h
theorem s_meth (g : Good P fns ca fa fdt C k X N sc W) {c : Nat} {m : Str} {f : Nat} {fn : Fn} {o a : Ex} {es : List Ex} {o' a' : Expr} {es' : List Expr} {apos pos : Pos} (hf : fns f = some fn) (hn : decide ((a :: es).length + 1 = fn.np) = true) (hx : (c, m, f) ∈ P.meths)
    (hsup : noSuper o' = true) (hs : (a' :: es').all noStar = true)
    (ht : ∃ pl : Sem Bool, eval (.Call (.Attribute o' m apos) (a' :: es') [] pos) X.env = (do
      let ov ← eval o' X.env
      standAt apos.atName
      let (f, first) ← holding [ov] (getMethod ov m pl)
      callWith pos f first (backTo pos (starEach (a' :: es') X.env)) (backToKw pos (keywordEach [] X.env))))
    (ho : SE ca C X W o o') (ha : SA ca C X W (a :: es) (a' :: es')) : SE ca C X W (.meth c m f o (a :: es)) (.Call (.Attribute o' m apos) (a' :: es') [] pos) := by
  obtain ⟨pl, ht⟩ := ht
  obtain ⟨c1, c2⟩ := g.fx.mth c m f hx
  simp only [List.all_cons, Bool.and_eq_true] at hs
  refine PE.imp (pe_meth (pl := pl) ho c1 c2 (g.fns f fn hf) (g.room.mono (Nat.le_succ _)) (g.fx.bnd f fn hf) .nil g.passes ha (noStar_ok hs.1 _ _) (star_any hs.2) ht) fun σ H Q h => ?_
  obtain ⟨p, F, G, r, M, sr, er, h⟩ := h
  refine ⟨p, F, G, r, M, sr, er, (Tk.bind (rel := RD X.K ca) h).mono fun v H1 ⟨p1, F1, x, M1, a1, b1, s1, r1, _, h1⟩ => ?_⟩
  obtain ⟨z1, z2⟩ := Tk.okIf h1
  obtain ⟨b, dx, fs, e1, e2, e3⟩ := methB_ok s1 r1 z1
  refine ⟨b, dx, fs, e1, e2, e3, p1, F1, G, r, M1, s1, er.sub a1 b1, (Tk.bind (rel := RDs X.K ca) z2).mono fun vs H2 ⟨p2, F2, xs, M2, a2, b2, s2, r2, q2, h2⟩ => ?_⟩
  refine ⟨?_, p2, F2, G, M2, x :: xs, s2, ⟨v, vs, by rw [List.append_nil], RD.sub a2 b2 x v r1, r2⟩, h2⟩
  have l1 : xs.length = (a :: es).length := call_step.evEs_len q2
  have l2 := of_decide_eq_true hn
  rw [List.append_nil, List.length_cons, ← r2.length, l1]
  exact l2
theorem s_meth0 (g : Good P fns ca fa fdt C k X N sc W) {c : Nat} {m : Str} {f : Nat} {fn : Fn} {o : Ex} {o' : Expr} {apos pos : Pos} (hf : fns f = some fn) (hn : decide (1 = fn.np) = true) (hx : (c, m, f) ∈ P.meths)
    (hsup : noSuper o' = true)
    (ht : ∃ pl : Sem Bool, eval (.Call (.Attribute o' m apos) [] [] pos) X.env = (do
      let ov ← eval o' X.env
      standAt apos.atName
      let (f, first) ← holding [ov] (getMethod ov m pl)
      callWith pos f first (backTo pos (starEach [] X.env)) (backToKw pos (keywordEach [] X.env))))
    (ho : SE ca C X W o o') : SE ca C X W (.meth c m f o []) (.Call (.Attribute o' m apos) [] [] pos) := by
  obtain ⟨pl, ht⟩ := ht
  obtain ⟨c1, c2⟩ := g.fx.mth c m f hx
  refine PE.imp (pe_meth0 (pl := pl) ho c1 c2 (g.fns f fn hf) (g.room.mono (Nat.le_succ _)) (g.fx.bnd f fn hf) .nil g.passes ht) fun σ H Q h => ?_
  obtain ⟨p, F, G, r, M, sr, er, h⟩ := h
  refine ⟨p, F, G, r, M, sr, er, (Tk.bind (rel := RD X.K ca) h).mono fun v H1 ⟨p1, F1, x, M1, a1, b1, s1, r1, _, h1⟩ => ?_⟩
  obtain ⟨z1, z2⟩ := Tk.okIf h1
  obtain ⟨b, dx, fs, e1, e2, e3⟩ := methB_ok s1 r1 z1
  exact ⟨b, dx, fs, e1, e2, e3, of_decide_eq_true hn, p1, F1, G, M1, [x], s1, ⟨v, [], rfl, r1, rfl⟩, z2⟩
theorem make_step (g : Good P fns ca fa fdt C k X N sc W) {c f n : Nat} {es : List Ex} {σ : L2.St} {H : Hp} {Q : VK} (hn : es.length + 1 = n) (h : TEo X.K ca W (evE C (.make c f es)) σ H Q) : tMake (ca c) (spF X.K ca C f n) [] W (TAo X.K ca W (evEs C es)) σ H Q := by
  obtain ⟨p, F, G, r, M, sr, er, h⟩ := h
  refine ⟨p, F, G, r, M, sr, er, (Tk.bind (rel := RDs X.K ca) h).mono fun vs H1 ⟨p1, F1, xs, M1, a1, b1, s1, r1, e1, h1⟩ => ?_⟩
  intro x dx hx hdx hne
  have l1 : xs.length = es.length := call_step.evEs_len e1
  have s2 := s1.grow (upd_grow (o := .own x) hdx)
  have hx2 : upd H1 dx (.own x) x = none := by rw [upd_ne (Ne.symm hne)]; exact hx
  obtain ⟨n1, n2, n3⟩ := s2.newM (m := .obj c []) (o := .ins (ca c) dx []) hx2 ⟨dx, [], upd_same, .nil⟩
  rw [List.append_nil]
  refine ⟨by rw [List.length_cons, ← r1.length, l1]; exact hn, p1 ++ [x], F1, G, M1 ++ [.obj c []], .ref M1.length :: xs, n3, ⟨.ref x, vs, rfl, ⟨x, n2, rfl⟩, RDs.sub n1 (Sub.refl _) xs vs r1⟩, ?_⟩
  have h2 := Tk.pre h1 n1 (Sub.refl F1)
  refine (Tk.bind (rel := RD X.K ca) h2).mono fun v H2 ⟨p2, F2, y, M2, a2, b2, s3, r3, _, h3⟩ => ?_
  split at h3
  · exact ⟨r3, Tk.ok h3 s3 ⟨x, a2 _ _ n2, rfl⟩⟩
  · exact h3.elim
theorem s_make (g : Good P fns ca fa fdt C k X N sc W) {c f : Nat} {fn : Fn} {x : Str} {a : Ex} {es : List Ex} {a' : Expr} {es' : List Expr} {pp pos : Pos} (hf : fns f = some fn) (hn : decide ((a :: es).length + 1 = fn.np) = true) (hx : (c, x, f) ∈ P.makes) (hg : glB sc x = true)
    (hs : (a' :: es').all noStar = true) (ha : SA ca C X W (a :: es) (a' :: es')) : SE ca C X W (.make c f (a :: es)) (.Call (.Name x pp) (a' :: es') [] pos) := by
  obtain ⟨g1, g2, g3⟩ := g.gl hg
  obtain ⟨m1, m2⟩ := g.fx.mak c x f hx
  simp only [List.all_cons, Bool.and_eq_true] at hs
  exact PE.imp (pe_make m2 (g.fns f fn hf) g.room g1 m1 (g.fx.bnd f fn hf) .nil g.passes ha g2 (noStar_ok hs.1 _ _) (star_any hs.2)) fun σ H Q h => make_step g (of_decide_eq_true hn) h
theorem s_make0 (g : Good P fns ca fa fdt C k X N sc W) {c f : Nat} {fn : Fn} {x : Str} {pp pos : Pos} (hf : fns f = some fn) (hn : decide (1 = fn.np) = true) (hx : (c, x, f) ∈ P.makes) (hg : glB sc x = true) : SE ca C X W (.make c f []) (.Call (.Name x pp) [] [] pos) := by
  obtain ⟨g1, g2, g3⟩ := g.gl hg
  obtain ⟨m1, m2⟩ := g.fx.mak c x f hx
  refine PE.imp (pe_make0 m2 (g.fns f fn hf) g.room g1 m1 (g.fx.bnd f fn hf) .nil g.passes g2) fun σ H Q h => ?_
  obtain ⟨p, F, G, r, M, sr, er, h⟩ := make_step g (n := fn.np) (by have := of_decide_eq_true hn; simpa using this) h
  exact Tk.ok h sr rfl
theorem s_attr (g : Good P fns ca fa fdt C k X N sc W) {c : Nat} {f : Str} {o : Ex} {o' : Expr} {pos : Pos} (hx : (c, f) ∈ P.flds) (hb : noSuper o' = true) (ho : SE ca C X W o o') : SE ca C X W (.attr c o f) (.Attribute o' f pos) := by
  obtain ⟨c1, c2⟩ := g.fx.cls c f hx
  refine PE.imp (pe_fld ho (noSuper_ok hb _ _)) fun σ H Q h => ?_
  obtain ⟨p, F, G, r, M, sr, er, h⟩ := h
  refine ⟨p, F, G, r, M, sr, er, (Tk.bind (rel := RD X.K ca) h).mono fun v H1 ⟨p1, F1, x, M1, a1, b1, s1, r1, _, h1⟩ => ?_⟩
  unfold attrV at h1
  have key : ∀ {fs : List (Str × D)}, fdOf M1 c x = some fs → ∃ a dx vs, v = .ref a ∧ H1 a = some (.ins (ca c) dx vs) ∧ PrD X.K ca p1 F1 fs vs := fun {fs} q => by
    unfold fdOf at q
    split at q
    · split at q
      · rename_i hk
        have e0 := of_decide_eq_true hk
        subst e0
        cases q
        obtain ⟨a, dx, us, e2, z1, z2, z3⟩ := r1
        exact ⟨a, dx, _, e2, s1.fr _ _ z1, zip_pr (RTs.toD z3)⟩
      · cases q
    · obtain ⟨i, a, dx, vs, _, _, e2, _, e4, e5⟩ := objOf_ok s1 r1 q
      exact ⟨a, dx, vs, e2, e4, e5⟩
  cases q : fdOf M1 c x with
  | none => simp only [q] at h1; exact h1.elim
  | some fs =>
    simp only [q] at h1
    obtain ⟨a, dx, vs, e2, e4, e5⟩ := key q
    cases q2 : fs.lookup f with
    | none => simp only [q2] at h1; exact h1.elim
    | some d =>
      simp only [q2] at h1
      obtain ⟨u, u1, u2⟩ := (look_fld (f := f) e5).1 d q2
      exact ⟨a, ca c, dx, vs, u, e2, e4, c1, c2, u1, Tk.ok h1 s1 u2⟩
/-- an object that its __init__ alone has changed -/
theorem makeF_step (g : Good P fns ca fa fdt C k X N sc W) {c f n : Nat} {es : List Ex} {σ : L2.St} {H : Hp} {Q : VK} (hn : es.length + 1 = n) (h : TEo X.K ca W (evE C (.makeF c f es)) σ H Q) : tMake (ca c) (spF X.K ca C f n) [] W (TAo X.K ca W (evEs C es)) σ H Q := by
  obtain ⟨p, F, G, r, M, sr, er, h⟩ := h
  refine ⟨p, F, G, r, M, sr, er, (Tk.bind (rel := RDs X.K ca) h).mono fun vs H1 ⟨p1, F1, xs, M1, a1, b1, s1, r1, e1, h1⟩ => ?_⟩
  intro x dx hx hdx hne
  have l1 : xs.length = es.length := call_step.evEs_len e1
  unfold makeFV at h1
  cases q : allT xs with
  | none => simp only [q] at h1; exact h1.elim
  | some ts =>
    simp only [q] at h1
    have s2 := s1.grow (upd_grow (o := .own x) hdx)
    have hx2 : upd H1 dx (.own x) x = none := by rw [upd_ne (Ne.symm hne)]; exact hx
    have s3 := s2.nil
    obtain ⟨n1, n2, n3⟩ := s3.newM (m := .obj c []) (o := .ins (ca c) dx []) hx2 ⟨dx, [], upd_same, .nil⟩
    have hM : ∀ a o, upd H1 dx (.own x) a = some o → upd (upd H1 dx (.own x)) x (.ins (ca c) dx []) a = some o := upd_grow hx2
    rw [List.append_nil]
    refine ⟨by rw [List.length_cons, ← r1.length, l1]; exact hn, [] ++ [x], F1, _, [] ++ [.obj c []], .ref 0 :: ts.map .t, n3, ⟨.ref x, vs, rfl, ⟨x, rfl, rfl⟩, RTs.toD (r1.allT q)⟩, ?_⟩
    show Tk X.K ca (RD X.K ca) W _ _ F1 (C f (.ref 0 :: ts.map .t) [.obj c []]) _
    cases e : C f (.ref 0 :: ts.map .t) [.obj c []] with
    | stuck => simp only [e] at h1; exact h1.elim
    | exc cc fs M2 =>
      simp only [e] at h1
      intro p2 F2 H2 cls d _ z2 t1 xr
      obtain ⟨b3, b4⟩ := s2.back t1 z2
      refine h1 p1 (ext F2 p2 H2) H2 cls d (Pre.refl _) b3 b4 ?_
      obtain ⟨x1, x2⟩ := xr
      refine ⟨x1, ?_⟩
      cases fs with
      | nil => exact x2
      | cons z zs =>
        obtain ⟨a, vs', y1, y2, y3⟩ := x2
        exact ⟨a, vs', y1, y2, Paired.mapP y3 fun u v w => ⟨w.1, RT.sub ext_sub _ _ w.2⟩⟩
    | ok d M2 =>
      simp only [e] at h1
      intro p2 F2 H2 v z1 z2 t1 rv
      cases d with
      | t y =>
        cases y with
        | non =>
          simp only at h1
          cases q2 : snap M2 deep (.ref 0) with
          | none => simp only [q2] at h1; exact h1.elim
          | some tt =>
            simp only [q2] at h1
            obtain ⟨b3, b4⟩ := s2.back t1 z2
            have rx : RD X.K ca p2 F2 (.ref 0) (.ref x) := ⟨x, z1 0 x rfl, rfl⟩
            exact ⟨rv, h1 p1 (ext F2 p2 H2) H2 (.ref x) (Pre.refl _) b3 b4 (snap_rt t1 deep (.ref 0) tt (.ref x) rx q2)⟩
        | _ => exact h1.elim
      | _ => exact h1.elim
theorem s_makeF (g : Good P fns ca fa fdt C k X N sc W) {c f : Nat} {fn : Fn} {x : Str} {a : Ex} {es : List Ex} {a' : Expr} {es' : List Expr} {pp pos : Pos} (hf : fns f = some fn) (hn : decide ((a :: es).length + 1 = fn.np) = true) (hx : (c, x, f) ∈ P.makes) (hg : glB sc x = true)
    (hs : (a' :: es').all noStar = true) (ha : SA ca C X W (a :: es) (a' :: es')) : SE ca C X W (.makeF c f (a :: es)) (.Call (.Name x pp) (a' :: es') [] pos) := by
  obtain ⟨g1, g2, g3⟩ := g.gl hg
  obtain ⟨m1, m2⟩ := g.fx.mak c x f hx
  simp only [List.all_cons, Bool.and_eq_true] at hs
  exact PE.imp (pe_make m2 (g.fns f fn hf) g.room g1 m1 (g.fx.bnd f fn hf) .nil g.passes ha g2 (noStar_ok hs.1 _ _) (star_any hs.2)) fun σ H Q h => makeF_step g (of_decide_eq_true hn) h
end
end Rw
end
section
set_option Elab.async false
set_option linter.all false
set_option maxRecDepth 100000
namespace Rw
open PySem PySem.Spec PyProof.Rows L2
def Itb (l : List Str) : It := ⟨fun i _ => i < l.length, fun i H x H' => H' = H ∧ ∃ s, l[i]? = some s ∧ x = .str s, fun i _ => l.length ≤ i⟩
theorem kd_at {ca : Nat → Addr} {P : Program} {w : World} {K : PySem.W.Frag} {h : Heap} {a : Addr} {es : Array DictEntry} {n : Nat} {l : List (Str × T)} (D : KDict K w a es n) (X : K.In h)
    (r : Paired (fun (e : DictEntry) (q : Str × T) => (∃ t, e.key = .str q.1 t) ∧ ∃ v, RelV v e.val ∧ ∀ F, RT K ca F q.2 v) es.toList l) (nd : (l.map (·.1)).Nodup) :
    ∃ vs : List (Str × Value), vs.map (·.1) = l.map (·.1) ∧ h.DictAt (PySem.strKind P w) a vs n := by
  have pr : ∀ {es : List DictEntry} {l : List (Str × T)}, Paired (fun (e : DictEntry) (q : Str × T) => (∃ t, e.key = .str q.1 t) ∧ ∃ v, RelV v e.val ∧ ∀ F, RT K ca F q.2 v) es l →
      ∃ vs : List (Str × Value), vs.map (·.1) = l.map (·.1) ∧ PySem.Pairs (PySem.strKind P w) es vs := fun {es l} r => by
    induction r with
    | nil => exact ⟨[], rfl, .nil⟩
    | @cons e q es l h t ih =>
      obtain ⟨vs, e1, e2⟩ := ih
      obtain ⟨⟨t, ht⟩, _⟩ := h
      refine ⟨(q.1, e.val) :: vs, by simp [e1], ?_⟩
      refine .cons ?_ rfl e2
      rw [ht]
      exact PySem.strKind_is P w q.1 t
  obtain ⟨vs, e1, e2⟩ := pr r
  refine ⟨vs, e1, _, es, X _ _ D.at_, ⟨rfl, rfl, rfl⟩, rfl, fun e he => ?_, e2, by rw [e1]; exact nd⟩
  obtain ⟨x, t, q1, q2⟩ := D.lit.all e (Array.mem_toList_iff.mpr he)
  exact ⟨x, by rw [q1]; exact PySem.strKind_is P w x t, q2⟩
theorem turn_kd {ca : Nat → Addr} {P : Program} {w : World} {K : PySem.W.Frag} {tg : Expr} {a : Addr} {es : Array DictEntry} {n : Nat} {l : List (Str × T)} (it : Addr) (D : KDict K w a es n)
    (r : Paired (fun (e : DictEntry) (q : Str × T) => (∃ t, e.key = .str q.1 t) ∧ ∃ v, RelV v e.val ∧ ∀ F, RT K ca F q.2 v) es.toList l) (nd : (l.map (·.1)).Nodup) :
    Turn P w K tg (Itb (l.map (·.1))) [it] it (fun i h => h.IsKeyIter it a i l.length n) where
  mem := by simp
  obj := fun i h st b hb => by
    have e : b = it := by simpa using hb
    subst e
    obtain ⟨oi, e, c, dd⟩ := st
    exact ⟨oi, e, fun v z => by rw [dd] at z; cases z⟩
  keep := fun i h h' st k => st.at fun oi e => k it (by simp) oi e
  item := by
    intro X hP hw hK hc i pins s σ H E I hf st hg
    subst hP hw hK
    have hi : i < (l.map (·.1)).length := hg
    obtain ⟨f0, f1, f2, f3, f4, f5⟩ := hf it (by simp)
    obtain ⟨vs, e1, hm⟩ := kd_at (P := X.prog) D I.kIn r nd
    have hl : vs.length = l.length := by have := congrArg List.length e1; simpa using this
    have hi2 : i < vs.length := by rw [hl]; simpa using hi
    have hu : vs[i]? = some (vs[i].1, vs[i].2) := List.getElem?_eq_getElem hi2
    rw [← hl] at st
    refine wpAny_pyNext_dict_item st hm hu fun key h' hkey st' sb => ?_
    have I1 : Inv X pins σ H { s with heap := h' } := I.turned (t' := s.toks) (fun b ob hb e => (sb.2 b hb).trans e) f0 f1 f3 f4 f5
    obtain ⟨oi, e, c, dd⟩ := id st'
    obtain ⟨t, ht⟩ := Value.isStrOf_shape (show Value.isStrOf vs[i].1 key = true from hkey)
    refine ⟨key, rfl, go_of (s := { s with heap := h' }) e c dd (by decide) ⟨.str vs[i].1, H, I1, ⟨t, ht⟩, ⟨rfl, vs[i].1, ?_, rfl⟩, ?_, fun b hb => (hf b hb).1⟩⟩
    · rw [← e1, List.getElem?_map, hu] <;> rfl
    · rw [← hl]; exact st'
  done := by
    intro X hP hw hK hc i pins s σ H E I hf st hg
    subst hP hw hK
    have hi : (l.map (·.1)).length ≤ i := hg
    obtain ⟨f0, f1, f2, f3, f4, f5⟩ := hf it (by simp)
    have hsz : es.size = l.length := by have := paired_len r; rw [← this, Array.length_toList]
    exact next_key_end (I.ok.hd hc) st (I.kIn _ _ D.at_) rfl hsz (by simpa using hi) fun h' eb => ⟨rfl, I.turned (t' := s.toks) (fun b ob hb e => eb b ob hb e) f0 f1 f3 f4 f5⟩
  self := fun A i s Q E st h => wpAny_pyIter_keyiter st h
section
variable {X : Cx} {tg : Expr}
theorem pi_kd {ca : Nat → Addr} {x : Str} {pos : Pos} {a : Addr} {es : Array DictEntry} {n : Nat} {l : List (Str × T)} (hg : Gl X x) (hm : X.mg x = some (.ref a)) (hd : (x == ("__debug__" : Str)) = false) (D : KDict X.K X.w a es n)
    (r : Paired (fun (e : DictEntry) (q : Str × T) => (∃ t, e.key = .str q.1 t) ∧ ∃ v, RelV v e.val ∧ ∀ F, RT X.K ca F q.2 v) es.toList l) (nd : (l.map (·.1)).Nodup) : PI X tg (.Name x pos) (fun _ H R => R (Itb (l.map (·.1))) H) := by
  refine ⟨fun pins s σ H R I q => ?_⟩
  refine ld_glob I hg hm ?_ hd
  have hsz : es.size = l.length := by have := paired_len r; rw [← this, Array.length_toList]
  refine iter_keys D.low (I.kIn _ _ D.at_) ⟨rfl, rfl, rfl⟩ rfl (pi_one (tk := s.toks) I _ (turn_kd _ D r nd) ⟨_, Heap.get?_push_size _ rfl, rfl, ?_⟩ q)
  rw [hsz] <;> rfl
theorem PI.imp {iter : Expr} {t t' : TI} (h : PI X tg iter t) (k : ∀ σ H Q, t' σ H Q → t σ H Q) : PI X tg iter t' := ⟨fun pins s σ H Q I q => h.run pins s σ H Q I (k σ H Q q)⟩
theorem PI.or {iter : Expr} {t t' : TI} (h : PI X tg iter t) (h' : PI X tg iter t') : PI X tg iter (fun σ H R => t σ H R ∨ t' σ H R) := ⟨fun pins s σ H Q I q => by
  rcases q with q | q
  · exact h.run pins s σ H Q I q
  · exact h'.run pins s σ H Q I q⟩
end
section
variable (K : PySem.W.Frag) (ca : Nat → Addr)
def ItF (l : List D) (p : List Addr) (F : Hp) (J : It) : Prop := ∀ (i : Nat) p' F' G M H, Pre p p' → Sub F F' → SR K ca p' F' G M H →
  (l.length ≤ i → J.stop i H) ∧ ∀ d, l[i]? = some d → J.go i H ∧ ∀ x H', J.yld i H x H' → ∃ F'', Sub F' F'' ∧ SR K ca p' F'' G M H' ∧ RD K ca p' F'' d x
def ItL (i0 : Nat) (p : List Addr) (J : It) : Prop := ∀ (j : Nat) p' F' G M H l, Pre p p' → SR K ca p' F' G M H → M[i0]? = some (.lst l) →
  (l[j]? = none → J.stop j H) ∧ ∀ d, l[j]? = some d → J.go j H ∧ ∀ x H', J.yld j H x H' → H' = H ∧ RD K ca p' F' d x
def ItR (p : List Addr) (F : Hp) : Itm → It → Prop
  | .fix l, J => ItF K ca l p F J
  | .live i _, J => ItL K ca i p J
def TIo (W : XK) (f : En → Ar → Res Itm) : TI := fun σ H R => ∃ p F G r M, SR K ca p F G M H ∧ ER K ca p F r σ ∧ Tk K ca (ItR K ca) W G p F (f r M) R
end
section
variable {K : PySem.W.Frag} {ca : Nat → Addr} {p : List Addr} {F : Hp}
theorem itF_tup {a : Addr} {l : List D} {vs : List V} (h : SqT K F a vs) (r : RDs K ca p F l vs) : ItF K ca l p F (Itt K a) := by
  intro i p' F' G M H hp hs sr
  have hq : SqT K H a vs := sqT_sub (hs.trans sr.fr) h
  have len := r.length
  refine ⟨fun hi => ⟨vs, hq, by rw [← len]; exact hi⟩, fun d hd => ?_⟩
  obtain ⟨v, e1, e2⟩ := r.get hd
  refine ⟨⟨vs, v, hq, e1⟩, fun x H' y => ?_⟩
  obtain ⟨y1, y2⟩ := y
  subst y1
  have := y2 vs hq
  rw [e1] at this
  cases this
  exact ⟨F', Sub.refl _, sr, RD.sub hp hs d v e2⟩
theorem itF_lst {a : Addr} {l : List D} {vs : List V} (h : SqL K F a vs) (r : RDs K ca p F l vs) : ItF K ca l p F (Itl K a) := by
  intro i p' F' G M H hp hs sr
  have hq : SqL K H a vs := sqL_sub (hs.trans sr.fr) h
  have len := r.length
  refine ⟨fun hi => ⟨vs, hq, by rw [← len]; exact hi⟩, fun d hd => ?_⟩
  obtain ⟨v, e1, e2⟩ := r.get hd
  refine ⟨⟨vs, v, hq, e1⟩, fun x H' y => ?_⟩
  obtain ⟨y1, y2⟩ := y
  subst y1
  have := y2 vs hq
  rw [e1] at this
  cases this
  exact ⟨F', Sub.refl _, sr, RD.sub hp hs d v e2⟩
theorem itL_lst {i0 : Nat} {a : Addr} (h : p[i0]? = some a) : ItL K ca i0 p (Itl K a) := by
  intro j p' F' G M H l hp sr hM
  obtain ⟨vs, k1, k2⟩ := sr.ob i0 a _ (hp _ _ h) hM
  have hq : SqL K H a vs := SqL.of k1
  have len := k2.length
  refine ⟨fun hi => ⟨vs, hq, by rw [← len]; exact List.getElem?_eq_none_iff.mp hi⟩, fun d hd => ?_⟩
  obtain ⟨v, e1, e2⟩ := k2.get hd
  refine ⟨⟨vs, v, hq, e1⟩, fun x H' y => ?_⟩
  obtain ⟨y1, y2⟩ := y
  subst y1
  have := y2 vs hq
  rw [e1] at this
  cases this
  exact ⟨rfl, e2⟩
theorem itF_rng {lo : Int} {n : Nat} : ItF K ca ((List.range n).map fun (k : Nat) => D.t (.int (lo + (k : Int)))) p F (Itr lo n) := by
  intro i p' F' G M H hp hs sr
  refine ⟨fun hi => by simpa [Itr] using hi, fun d hd => ?_⟩
  have hi : i < n := by
    have := (List.getElem?_eq_some_iff.mp hd).1
    simpa using this
  refine ⟨hi, fun x H' y => ?_⟩
  obtain ⟨y1, y2⟩ := y
  subst y1 y2
  rw [List.getElem?_map, List.getElem?_range hi] at hd
  have e : D.t (.int (lo + (i : Int))) = d := by simpa using hd
  subst e
  exact ⟨F', Sub.refl _, sr, rfl⟩
theorem itF_rngC {lo c : Int} {n : Nat} : ItF K ca (rngC lo c n) p F (Itc lo c n) := by
  intro i p' F' G M H hp hs sr
  unfold rngC
  refine ⟨fun hi => by simpa [Itc] using hi, fun d hd => ?_⟩
  have hi : i < n := by
    have := (List.getElem?_eq_some_iff.mp hd).1
    simpa using this
  refine ⟨hi, fun x H' y => ?_⟩
  obtain ⟨y1, y2⟩ := y
  subst y1 y2
  rw [List.getElem?_map, List.getElem?_range hi] at hd
  have e : D.t (.int (lo + (i : Int) * c)) = d := by simpa using hd
  subst e
  exact ⟨F', Sub.refl _, sr, rfl⟩
theorem enuL_get : ∀ (l : List D) (k i : Nat), (enuL k l)[i]? = (l[i]?).map fun d => frzT [.t (.int ((k + i : Nat) : Int)), d]
  | [], _, _ => by simp [enuL]
  | d :: l, k, 0 => by simp [enuL]
  | d :: l, k, i + 1 => by
    show (enuL (k + 1) l)[i]? = (l[i]?).map _
    rw [enuL_get l (k + 1) i]
    have : k + 1 + i = k + (i + 1) := by omega
    rw [this]
theorem enuL_len : ∀ (l : List D) (k : Nat), (enuL k l).length = l.length
  | [], _ => rfl
  | d :: l, k => by show (enuL (k + 1) l).length + 1 = l.length + 1; rw [enuL_len]
theorem itF_enu {a : Addr} {l : List D} {vs : List V} (h : SqL K F a vs) (r : RDs K ca p F l vs) : ItF K ca (enuL 0 l) p F (Ite K a) := by
  intro i p' F' G M H hp hs sr
  have hq : SqL K H a vs := sqL_sub (hs.trans sr.fr) h
  have len := r.length
  refine ⟨fun hi => ⟨vs, hq, by rw [← len]; rw [enuL_len] at hi; exact hi⟩, fun d hd => ?_⟩
  rw [enuL_get] at hd
  cases q : l[i]? with
  | none => rw [q] at hd; cases hd
  | some d0 =>
    rw [q] at hd
    have ed : frzT [.t (.int ((i : Nat) : Int)), d0] = d := by simpa using hd
    subst ed
    obtain ⟨v, e1, e2⟩ := r.get q
    refine ⟨⟨vs, v, hq, e1⟩, fun x H' y => ?_⟩
    obtain ⟨T, x1, ex, nT, eH, y2⟩ := y
    subst ex eH
    have := y2 vs hq
    rw [e1] at this
    cases this
    obtain ⟨n1, n2⟩ := sr.newF (o := .tup [.int (i : Nat), v]) nT
    exact ⟨_, n1, n2, RDs.frzT ⟨_, _, rfl, rfl, ⟨v, [], rfl, RD.sub hp (hs.trans n1) d0 v e2, rfl⟩⟩ (SqT.of upd_same)⟩
theorem itF_tab {l : List Str} : ItF K ca (l.map fun x => D.t (.str x)) p F (Itb l) := by
  intro i p' F' G M H hp hs sr
  refine ⟨fun hi => by simpa [Itb] using hi, fun d hd => ?_⟩
  have hi : i < l.length := by
    have := (List.getElem?_eq_some_iff.mp hd).1
    simpa using this
  refine ⟨hi, fun x H' y => ?_⟩
  obtain ⟨y1, s, y2, y3⟩ := y
  subst y1 y3
  rw [List.getElem?_map, y2] at hd
  have e : D.t (.str s) = d := by simpa using hd
  subst e
  exact ⟨F', Sub.refl _, sr, rfl⟩
theorem itF_str {x : Str} : ItF K ca (sgL x) p F (Its x) := by
  intro i p' F' G M H hp hs sr
  refine ⟨fun hi => by simpa [Its, sgL] using hi, fun d hd => ?_⟩
  unfold sgL at hd
  rw [List.getElem?_map] at hd
  cases q : x.cps.toList[i]? with
  | none => rw [q] at hd; cases hd
  | some c =>
    rw [q] at hd
    have e : D.t (.str ⟨#[c]⟩) = d := by simpa using hd
    subst e
    have hi : i < x.cps.size := by
      have := (List.getElem?_eq_some_iff.mp q).1
      simpa using this
    refine ⟨hi, fun v H' y => ?_⟩
    obtain ⟨y1, c', y2, y3⟩ := y
    subst y1 y3
    have e2 : c' = c := by
      have : x.cps.toList[i]? = some c' := by rw [Array.getElem?_toList]; exact y2
      rw [q] at this
      exact (Option.some.inj this).symm
    subst e2
    exact ⟨F', Sub.refl _, sr, rfl⟩
theorem zipL_get : ∀ (l m : List D) (i : Nat) (d : D), (zipL l m)[i]? = some d → ∃ a b, l[i]? = some a ∧ m[i]? = some b ∧ d = frzT [a, b]
  | [], _, i, d, h => by cases i <;> simp [zipL] at h
  | _ :: _, [], i, d, h => by cases i <;> simp [zipL] at h
  | a :: l, b :: m, 0, d, h => ⟨a, b, rfl, rfl, by simpa [zipL] using h.symm⟩
  | a :: l, b :: m, i + 1, d, h => by
    have h' : (zipL l m)[i]? = some d := by simpa [zipL] using h
    obtain ⟨x, y, h1, h2, h3⟩ := zipL_get l m i d h'
    exact ⟨x, y, by simpa using h1, by simpa using h2, h3⟩
theorem zipL_len : ∀ (l m : List D), (zipL l m).length = min l.length m.length
  | [], m => by simp [zipL]
  | _ :: _, [] => by simp [zipL]
  | a :: l, b :: m => by simp [zipL, zipL_len l m]
theorem itF_zip {a b : Addr} {l m : List D} {vs ws : List V} (h : SqL K F a vs) (h2 : SqL K F b ws) (r : RDs K ca p F l vs) (r2 : RDs K ca p F m ws) : ItF K ca (zipL l m) p F (Itz K a b) := by
  intro i p' F' G M H hp hs sr
  have hq : SqL K H a vs := sqL_sub (hs.trans sr.fr) h
  have hq2 : SqL K H b ws := sqL_sub (hs.trans sr.fr) h2
  have len := r.length
  have len2 := r2.length
  refine ⟨fun hi => ⟨vs, ws, hq, hq2, by rw [zipL_len] at hi; omega⟩, fun d hd => ?_⟩
  obtain ⟨x, y, x1, y1, rfl⟩ := zipL_get l m i d hd
  obtain ⟨v, e1, e2⟩ := r.get x1
  obtain ⟨w, f1, f2⟩ := r2.get y1
  refine ⟨⟨vs, ws, v, w, hq, hq2, e1, f1⟩, fun z H' yl => ?_⟩
  obtain ⟨T, x', y', ez, nT, eH, u1, u2⟩ := yl
  subst ez eH
  have g1 := u1 vs hq
  have g2 := u2 ws hq2
  rw [e1] at g1
  rw [f1] at g2
  cases g1
  cases g2
  obtain ⟨n1, n2⟩ := sr.newF (o := .tup [v, w]) nT
  exact ⟨_, n1, n2, RDs.frzT ⟨_, _, rfl, RD.sub hp (hs.trans n1) x v e2, ⟨w, [], rfl, RD.sub hp (hs.trans n1) y w f2, rfl⟩⟩ (SqT.of upd_same)⟩
def Ites (x : Str) : It := ⟨fun i _ => i < x.cps.size, fun i H v H' => ∃ T c, v = .ref T ∧ H T = none ∧ H' = upd H T (.tup [.int (i : Nat), .str ⟨#[c]⟩]) ∧ x.cps[i]? = some c, fun i _ => x.cps.size ≤ i⟩
theorem itF_enuS {x : Str} : ItF K ca (enuL 0 (sgL x)) p F (Ites x) := by
  intro i p' F' G M H hp hs sr
  refine ⟨fun hi => by rw [enuL_len] at hi; simpa [Ites, sgL] using hi, fun d hd => ?_⟩
  rw [enuL_get] at hd
  unfold sgL at hd
  rw [List.getElem?_map] at hd
  cases q : x.cps.toList[i]? with
  | none => rw [q] at hd; cases hd
  | some c =>
    rw [q] at hd
    have e : frzT [.t (.int ((i : Nat) : Int)), D.t (.str ⟨#[c]⟩)] = d := by simpa using hd
    subst e
    have hi : i < x.cps.size := by
      have := (List.getElem?_eq_some_iff.mp q).1
      simpa using this
    refine ⟨hi, fun v H' y => ?_⟩
    obtain ⟨T, c', y1, y2, y3, y4⟩ := y
    subst y1 y3
    have e2 : c' = c := by
      have : x.cps.toList[i]? = some c' := by rw [Array.getElem?_toList]; exact y4
      rw [q] at this
      exact (Option.some.inj this).symm
    subst e2
    obtain ⟨n1, n2⟩ := sr.newF (o := .tup [.int (i : Nat), .str ⟨#[c']⟩]) y2
    exact ⟨_, n1, n2, RDs.frzT ⟨_, _, rfl, rfl, ⟨_, [], rfl, rfl, rfl⟩⟩ (SqT.of upd_same)⟩
end
theorem turn_enuS {P : Program} {w : World} {K : PySem.W.Frag} {elts : List Expr} {kk : Nat} {tpos : Pos} (x : Str) (t : Tok) (ty : String) (hty : ty = "str_ascii_iterator" ∨ ty = "str_iterator") (e it : Addr) :
    Turn P w K (.Tuple elts kk tpos) (Ites x) [e, it] e (fun i h => (∃ old, IsEnum h e it ((i : Nat) : Int) old) ∧ h.IsStrIter it ty x t i ∧ e ≠ it ∧ i ≤ x.cps.size) where
  mem := by simp
  obj := fun i h st b hb => by
    obtain ⟨⟨old, he⟩, ⟨o, ho, hc, hd⟩, _⟩ := st
    rcases (show b = e ∨ b = it by simpa using hb) with z | z
    · subst z
      exact ⟨_, he, fun v q => nomatch q⟩
    · subst z
      exact ⟨o, ho, fun v q => by rw [hd] at q; cases q⟩
  keep := fun i h h' st kp => by
    obtain ⟨⟨old, he⟩, ⟨o, ho, r⟩, hne⟩ := st
    exact ⟨⟨old, kp e (by simp) _ he⟩, ⟨o, kp it (by simp) o ho, r⟩, hne⟩
  item := by
    intro X hP hw hK hc i pins s σ H E I hf st hg
    subst hP hw hK
    obtain ⟨⟨old, he⟩, hit, hne, _⟩ := st
    have hi : i < x.cps.size := hg
    have hel : e < s.heap.objs.size := Heap.lt_size he
    have hil : it < s.heap.objs.size := by obtain ⟨o, q, _⟩ := id hit; exact Heap.lt_size q
    have D : Draws X.prog X.w X.A.in1 it [it] x.cps.size (fun i v => ∃ c u, x.cps[i]? = some c ∧ v = .str ⟨#[c]⟩ u) (fun i h => h.IsStrIter it ty x t i) := by
      rcases hty with rfl | rfl
      · exact Draws.strAscii (A := X.A.in1) (I.ok.hd hc) it x t
      · exact Draws.strWide (A := X.A.in1) (I.ok.hd hc) it x t
    refine wpAny_pyNext_enum_itemD D he hit hi hne (by simpa using hne) fun xv h' tk hPx ho hit' hT hsz hk => ?_
    obtain ⟨c, uu, hcx, rfl⟩ := hPx
    refine ⟨_, rfl, wpAny_letOwnedTupleGo_enum (s := { s with heap := h', toks := tk + 1 }) ho fun h2 he2 sb => ?_⟩
    have hT2 := (sb.2 _ (Nat.ne_of_gt hel)).trans hT
    have newO : ObjOk X.prog X.w (upd H s.heap.objs.size (.tup [.int (i : Nat), .str ⟨#[c]⟩])) h2 s.heap.objs.size (.tup [.int (i : Nat), .str ⟨#[c]⟩]) :=
      ⟨by show 2 ≤ sizeLine; decide, _, .cons ⟨_, rfl⟩ (.cons ⟨_, rfl⟩ .nil), ⟨_, hT2, rfl, _, rfl⟩⟩
    have I1 : Inv X pins σ (upd H s.heap.objs.size (.tup [.int (i : Nat), .str ⟨#[c]⟩])) { s with heap := h2, toks := tk + 1 } :=
      I.turnedNew (ch := [e, it]) (fun b ob hb q => (sb.2 b (fun z => hb (by simp [z]))).trans (hk b ob (fun z => hb (by simp [z])) (fun z => hb (by simp [z])) q)) hf (Nat.le_refl _) newO
    refine ⟨.ref s.heap.objs.size, _, I1, rfl, ⟨_, c, rfl, I.hok.fresh (Nat.le_refl _), rfl, hcx⟩, ⟨⟨.str ⟨#[c]⟩ uu, ?_⟩, ?_, hne, hi⟩, fun b hb => ?_⟩
    · have e1 : ((i + 1 : Nat) : Int) = (i : Int) + 1 := by omega
      rw [e1]; exact he2
    · obtain ⟨o, q, r⟩ := hit'
      exact ⟨o, (sb.2 it (Ne.symm hne)).trans q, r⟩
    · have hb' : b < s.heap.objs.size := by
        rcases (show b = e ∨ b = it by simpa using hb) with z | z
        · rw [z]; exact hel
        · rw [z]; exact hil
      rw [upd_ne (Nat.ne_of_lt hb')]
      exact (hf b hb).1
  done := by
    intro X hP hw hK hc i pins s σ H E I hf st hg
    subst hP hw hK
    obtain ⟨⟨old, he⟩, hit, hne, hle⟩ := st
    have hi : i = x.cps.size := Nat.le_antisymm hle hg
    subst hi
    obtain ⟨f0, f1, f2, f3, f4, f5⟩ := hf it (by simp)
    have D : Draws X.prog X.w X.A.in1 it [it] x.cps.size (fun i v => ∃ c u, x.cps[i]? = some c ∧ v = .str ⟨#[c]⟩ u) (fun i h => h.IsStrIter it ty x t i) := by
      rcases hty with rfl | rfl
      · exact Draws.strAscii (A := X.A.in1) (I.ok.hd hc) it x t
      · exact Draws.strWide (A := X.A.in1) (I.ok.hd hc) it x t
    exact wpAny_pyNext_enum_endD D he hit fun h' eb => ⟨rfl, I.turned (t' := s.toks) (fun b o hb q => eb b o hb q) f0 f1 f3 f4 f5⟩
  self := fun A i s Q E st h => by
    obtain ⟨⟨_, he⟩, _⟩ := st
    exact wpAny_pyIter_enum he h
/-- enumerate(text) -/
theorem pi_enuS {X : Cx} {e : Expr} {ta : TA} {pp pos tpos : Pos} {elts : List Expr} {kk : Nat} (hg : Gl X "enumerate") (hm : X.mg "enumerate" = none) (ha : PA X [e] ta) (hs : starEach [e] X.env = [(false, eval e X.env)]) :
    PI X (.Tuple elts kk tpos) (.Call (.Name "enumerate" pp) [e] [] pos) (fun σ H R => ta σ H fun vs H1 => ∃ x, vs = [.str x] ∧ R (Ites x) H1) := by
  refine ⟨fun pins s σ H R I h => ?_⟩
  refine Call_ (ld_blt I hg hm boot_enumerate (PyProof.Rows.callWith_type1 (thn (ha.run pos pins s σ H _ I h) fun us s1 ⟨vs, H1, I1, r1, q1⟩ => ?_) hs rfl))
  obtain ⟨x, rfl, q⟩ := q1
  cases r1 with
  | cons r rr =>
    cases rr
    obtain ⟨t, rfl⟩ := r
    refine call_enumerate_str fun h' he hit hsz hk => wpAny_pyIter_enum he ?_
    have I2 : Inv X pins σ H1 { s1 with heap := h' } := I1.kept (t' := s1.toks) hk
    have hty : strIterType x = "str_ascii_iterator" ∨ strIterType x = "str_iterator" := by
      unfold strIterType
      split
      · exact .inl rfl
      · exact .inr rfl
    refine ⟨s1.heap.objs.size + 1, [s1.heap.objs.size + 1, s1.heap.objs.size], _, _, H1, rfl, I2, turn_enuS x t _ hty (s1.heap.objs.size + 1) s1.heap.objs.size, ⟨⟨.none, he⟩, hit, Nat.succ_ne_self _, Nat.zero_le _⟩, fun b hb => ?_, q⟩
    have hle : s1.heap.objs.size ≤ b := by
      rcases (show b = s1.heap.objs.size + 1 ∨ b = s1.heap.objs.size by simpa using hb) with z | z
      · rw [z]; exact Nat.le_add_right _ _
      · rw [z]; exact Nat.le_refl _
    exact I1.fpOk hle (I1.hok.fresh hle)
end Rw
end
section
set_option Elab.async false
set_option linter.all false
set_option maxRecDepth 100000
namespace Rw
open PySem PySem.Spec PyProof.Rows L2
theorem mc_eq {o : Expr} {m : Str} {apos pos : Pos} {args : List Expr} {env : Env} (h1 : noSuper o = true) (h2 : args.all noStar = true) (h3 : decide (args.length < 30) = true) (h4 : (apos.endLine == pos.line) = true) :
    ∃ pl : Sem Bool, eval (.Call (.Attribute o m apos) args [] pos) env = (do
      let ov ← eval o env
      standAt apos.atName
      let (f, first) ← holding [ov] (getMethod ov m pl)
      callWith pos f first (backTo pos (starEach args env)) (backToKw pos (keywordEach [] env))) := by
  refine ⟨(do return (← importBound o env).getD true), ?_⟩
  have few : methodCallForm (args.length + ([] : List Keyword).length) (backTo pos (starEach args env)) (backToKw pos (keywordEach [] env)) = true := by
    unfold methodCallForm
    rw [star_all h2]
    have e2 : backToKw pos (keywordEach [] env) = [] := rfl
    rw [e2]
    simpa using h3
  show (do
    let ov ← attributeBase o m env (eval o env)
    standAt apos.atName
    methodCall o m apos pos env ov (args.length + ([] : List Keyword).length) (backTo pos (starEach args env)) (backToKw pos (keywordEach [] env))) = _
  rw [noSuper_ok h1]
  have e : ∀ ov, methodCall o m apos pos env ov (args.length + ([] : List Keyword).length) (backTo pos (starEach args env)) (backToKw pos (keywordEach [] env)) = (do
      let (f, first) ← holding [ov] (getMethod ov m (do return (← importBound o env).getD true))
      callWith pos f first (backTo pos (starEach args env)) (backToKw pos (keywordEach [] env))) := fun ov => by
    unfold methodCall calleeOf methodCallPos
    rw [few, h4]
    rfl
  simp only [e]
section
variable {P : Pg} {fns : Nat → Option Fn} {ca fa : Nat → Addr} {fdt : Nat → FuncData} {C : Cal} {k : Nat} {X : Cx} {N : List Str} {sc : Scope} {W : XK} {tg : Expr}
abbrev SI (ca : Nat → Addr) (C : Cal) (X : Cx) (W : XK) (tg : Expr) (x : Sr) (e : Expr) : Prop := PI X tg e (TIo X.K ca W (evSr C x))
theorem s_seq {a : Ex} {a' : Expr} (ha : SE ca C X W a a') : SI ca C X W tg (.seq a) a' := by
  refine PI.imp (PI.or (PI.or (pi_list ha) (pi_tup ha)) (pi_str ha)) fun σ H R h => ?_
  obtain ⟨p, F, G, r, M, sr, er, h⟩ := h
  have h' : Tk X.K ca (ItR X.K ca) W G p F ((evE C a r M).bind srSeq) R := h
  have base := Tk.bind (rel := RD X.K ca) h'
  by_cases hx : ∃ x M1, evE C a r M = .ok (.t (.str x)) M1
  · obtain ⟨x, M1, e1⟩ := hx
    right
    refine ⟨p, F, G, r, M, sr, er, base.mono fun v H1 ⟨p1, F1, y, M1', a1, b1, s1, r1, q1, h1⟩ => ?_⟩
    rw [e1] at q1
    cases q1
    exact ⟨x, r1, Tk.ok (show Tk X.K ca (ItR X.K ca) W G p1 F1 (.ok (.fix (sgL x)) M1) R from h1) s1 itF_str⟩
  left
  -- a tuple, or a list
  by_cases ht : ∃ d M1 l, evE C a r M = .ok d M1 ∧ lsOf M1 d = none ∧ tpOf d = some l
  · obtain ⟨d, M1, l, e1, e2, e3⟩ := ht
    right
    refine ⟨p, F, G, r, M, sr, er, base.mono fun v H1 ⟨p1, F1, x, M1', a1, b1, s1, r1, q1, h1⟩ => ?_⟩
    rw [e1] at q1
    cases q1
    obtain ⟨b, vs, h0, h2, h3⟩ := tpOf_ok s1 r1 e3
    refine ⟨b, h0, ⟨vs, sqT_sub s1.fr h2⟩, ?_⟩
    have e4 : srSeq d M1 = .ok (.fix l) M1 := by
      unfold srSeq
      cases d with
      | ref i => cases e3
      | t y => cases y <;> first | cases e3; done | simp only [sqOf, e2, e3]
      | _ => simp only [sqOf, e2, e3]
    rw [e4] at h1
    exact Tk.ok h1 s1 (itF_tup h2 h3)
  · left
    refine ⟨p, F, G, r, M, sr, er, base.mono fun v H1 ⟨p1, F1, x, M1, a1, b1, s1, r1, q1, h1⟩ => ?_⟩
    cases x with
    | ref i =>
      have h2 : Tk X.K ca (ItR X.K ca) W G p1 F1 (match M1[i]? with | some (.lst l) => .ok (.live i l.length) M1 | _ => .stuck) R := h1
      cases q : M1[i]? with
      | none => simp only [q] at h2; exact h2.elim
      | some o =>
        simp only [q] at h2
        cases o with
        | lst l =>
          obtain ⟨b, k1, k2⟩ := r1
          obtain ⟨vs, k3, k4⟩ := s1.ob i b _ k1 q
          exact ⟨b, k2, ⟨vs, SqL.of k3⟩, Tk.ok h2 s1 (itL_lst k1)⟩
        | _ => exact h2.elim
    | t y =>
      have h2 := h1
      cases y with
      | str x => exact absurd ⟨x, M1, q1⟩ hx
      | lst m =>
        obtain ⟨b, vs, k1, k2, k3⟩ := r1
        exact ⟨b, k1, ⟨vs, SqL.of (s1.fr _ _ k2)⟩, Tk.ok (show Tk X.K ca (ItR X.K ca) W G p1 F1 (.ok (.fix (m.map .t)) M1) R from h2) s1 (itF_lst (SqL.of k2) (RTs.toD k3))⟩
      | scr m =>
        obtain ⟨b, k1, k2⟩ := r1
        exact ⟨b, k1, ⟨_, sqL_sub s1.fr k2⟩, Tk.ok (show Tk X.K ca (ItR X.K ca) W G p1 F1 (.ok (.fix (m.map fun i => D.t (.int i))) M1) R from h2) s1 (itF_lst k2 (ints_RDs m))⟩
      | tup m => exact absurd ⟨_, _, _, q1, rfl, rfl⟩ ht
      | _ => exact h2.elim
    | tup m => exact absurd ⟨_, _, _, q1, rfl, rfl⟩ ht
    | lst m =>
      obtain ⟨b, vs, k1, k2, k3⟩ := r1
      exact ⟨b, k1, ⟨vs, SqL.of (s1.fr _ _ k2)⟩, Tk.ok (show Tk X.K ca (ItR X.K ca) W G p1 F1 (.ok (.fix m) M1) R from h1) s1 (itF_lst (SqL.of k2) k3)⟩
theorem small_ok {i : Int} (h : small i = true) : -(2 ^ 62) ≤ i ∧ i < 2 ^ 62 := by
  unfold small at h
  simpa using h
theorem s_rng1 (g : Good P fns ca fa fdt C k X N sc W) {a : Ex} {a' : Expr} {pp pos : Pos} (hg : glB sc "range" = true) (hs : noStar a' = true) (ha : SE ca C X W a a') : SI ca C X W tg (.rng [a]) (.Call (.Name "range" pp) [a'] [] pos) := by
  obtain ⟨g1, g2, g3⟩ := g.gl hg
  refine PI.imp (pi_range1 g1 (g.fx.free "range" (by decide)) (s_cons hs ha s_nil) (noStar_ok hs _ _)) fun σ H R h => ?_
  obtain ⟨p, F, G, r, M, sr, er, h⟩ := h
  refine ⟨p, F, G, r, M, sr, er, (Tk.bind (rel := RDs X.K ca) (show Tk X.K ca (ItR X.K ca) W G p F ((evEs C [a] r M).bind srRng) R from h)).mono fun vs H1 ⟨p1, F1, xs, M1, a1, b1, s1, r1, q1, h1⟩ => ?_⟩
  have hl := call_step.evEs_len q1
  match xs, hl with
  | [x], _ =>
    obtain ⟨v, rfl, k1⟩ := one_of r1
    cases x with
    | t y =>
      cases y with
      | int j =>
        obtain ⟨z1, z2⟩ := Tk.okIf h1
        obtain ⟨z3, z4⟩ := small_ok z1
        have ev : v = .int j := k1
        subst ev
        refine ⟨j, rfl, z3, z4, Tk.ok z2 s1 ?_⟩
        have : (j - 0).toNat = j.toNat := by simp
        unfold rngL
        rw [this]
        exact itF_rng
      | _ => exact h1.elim
    | _ => exact h1.elim
theorem s_rng2 (g : Good P fns ca fa fdt C k X N sc W) {a b : Ex} {a' b' : Expr} {pp pos : Pos} (hg : glB sc "range" = true) (hs : noStar a' = true) (hs2 : noStar b' = true) (ha : SE ca C X W a a') (hb : SE ca C X W b b') : SI ca C X W tg (.rng [a, b]) (.Call (.Name "range" pp) [a', b'] [] pos) := by
  obtain ⟨g1, g2, g3⟩ := g.gl hg
  refine PI.imp (pi_range2 g1 (g.fx.free "range" (by decide)) (s_cons hs ha (s_cons hs2 hb s_nil)) (by rw [noStar_ok hs, noStar_ok hs2]; rfl) (noStar_ok hs2 _ _)) fun σ H R h => ?_
  obtain ⟨p, F, G, r, M, sr, er, h⟩ := h
  refine ⟨p, F, G, r, M, sr, er, (Tk.bind (rel := RDs X.K ca) (show Tk X.K ca (ItR X.K ca) W G p F ((evEs C [a, b] r M).bind srRng) R from h)).mono fun vs H1 ⟨p1, F1, xs, M1, a1, b1, s1, r1, q1, h1⟩ => ?_⟩
  have hl := call_step.evEs_len q1
  match xs, hl with
  | [x, y], _ =>
    obtain ⟨v, w, rfl, k1, k2⟩ := two_of r1
    have hh : ∃ i j, x = .t (.int i) ∧ y = .t (.int j) := by
      unfold srRng at h1
      split at h1
      · rename_i heq; cases heq
      · rename_i i j heq
        cases heq
        exact ⟨i, j, rfl, rfl⟩
      · exact h1.elim
    obtain ⟨i, j, rfl, rfl⟩ := hh
    obtain ⟨z1, z2⟩ := Tk.okIf h1
    obtain ⟨z3, z4⟩ := Bool.and_eq_true_iff.mp z1
    obtain ⟨y1, y2⟩ := small_ok z3
    obtain ⟨y3, y4⟩ := small_ok z4
    have ev : v = .int i := k1
    have ew : w = .int j := k2
    subst ev ew
    exact ⟨i, j, rfl, ⟨y1, y2, y3, y4⟩, Tk.ok z2 s1 itF_rng⟩
theorem s_rng3 (g : Good P fns ca fa fdt C k X N sc W) {a b c : Ex} {a' b' c' : Expr} {pp pos : Pos} (hg : glB sc "range" = true) (hs : noStar a' = true) (hs2 : noStar b' = true) (hs3 : noStar c' = true) (ha : SE ca C X W a a') (hb : SE ca C X W b b') (hc : SE ca C X W c c') : SI ca C X W tg (.rng3 a b c) (.Call (.Name "range" pp) [a', b', c'] [] pos) := by
  obtain ⟨g1, g2, g3⟩ := g.gl hg
  refine PI.imp (pi_range3 g1 (g.fx.free "range" (by decide)) (s_cons hs ha (s_cons hs2 hb (s_cons hs3 hc s_nil))) (by rw [noStar_ok hs]) (by rw [noStar_ok hs2, noStar_ok hs3]; rfl)) fun σ H R h => ?_
  obtain ⟨p, F, G, r, M, sr, er, h⟩ := h
  have h0 : Tk X.K ca (ItR X.K ca) W G p F ((evEs C [a, b, c] r M).bind fun ds M => match ds with
    | [x, y, z] => srRng3 x y z M
    | _ => .stuck) R := by
    have e : (evEs C [a, b, c] r M).bind (fun ds M => match ds with
      | [x, y, z] => srRng3 x y z M
      | _ => .stuck) = evSr C (.rng3 a b c) r M := by
      simp only [evEs, evSr]
      cases evE C a r M with
      | ok x M1 =>
        show ((evE C b r M1).bind _ |>.bind _).bind _ = (evE C b r M1).bind _
        cases evE C b r M1 with
        | ok y M2 =>
          show (((evE C c r M2).bind _ |>.bind _).bind _).bind _ = (evE C c r M2).bind _
          cases evE C c r M2 <;> rfl
        | exc _ _ _ => rfl
        | stuck => rfl
      | exc _ _ _ => rfl
      | stuck => rfl
    rw [e]
    exact h
  refine ⟨p, F, G, r, M, sr, er, (Tk.bind (rel := RDs X.K ca) h0).mono fun vs H1 ⟨p1, F1, xs, M1, a1, b1, s1, r1, q1, h1⟩ => ?_⟩
  have hl := call_step.evEs_len q1
  match xs, hl with
  | [x, y, z], _ =>
    have hh : ∃ i j k, x = .t (.int i) ∧ y = .t (.int j) ∧ z = .t (.int k) := by
      have h2 : Tk X.K ca (ItR X.K ca) W G p1 F1 (srRng3 x y z M1) R := h1
      unfold srRng3 at h2
      split at h2
      · exact ⟨_, _, _, rfl, rfl, rfl⟩
      · exact h2.elim
    obtain ⟨i, j, c0, rfl, rfl, rfl⟩ := hh
    have h2 : Tk X.K ca (ItR X.K ca) W G p1 F1 (okIf (decide (c0 ≠ 0) && decide (c0.natAbs < 1073741824) && Builtin.Range.small i j c0 && decide (0 ≤ Builtin.Range.rangeSize i j c0)) (.ok (.fix (rngC i c0 (rngN i j c0))) M1)) R := h1
    obtain ⟨z1, z2⟩ := Tk.okIf h2
    simp only [Bool.and_eq_true, decide_eq_true_eq] at z1
    obtain ⟨⟨⟨z3, z4⟩, z5⟩, z6⟩ := z1
    obtain ⟨v1, t1, rfl, k1, r2⟩ := r1
    obtain ⟨v2, t2, rfl, k2, r3⟩ := r2
    obtain ⟨v3, t3, rfl, k3, r4⟩ := r3
    have e4 : t3 = [] := r4
    have ev : v1 = .int i := k1
    have ew : v2 = .int j := k2
    have eu : v3 = .int c0 := k3
    subst ev ew eu e4
    exact ⟨i, j, c0, rngN i j c0, rfl, ⟨z3, z4, z5, by unfold rngN; omega⟩, Tk.ok z2 s1 itF_rngC⟩
theorem s_enu (g : Good P fns ca fa fdt C k X N sc W) {a : Ex} {a' : Expr} {pp pos tpos : Pos} {elts : List Expr} {kk : Nat} (hg : glB sc "enumerate" = true) (hs : noStar a' = true) (ha : SE ca C X W a a') : SI ca C X W (.Tuple elts kk tpos) (.enu a) (.Call (.Name "enumerate" pp) [a'] [] pos) := by
  obtain ⟨g1, g2, g3⟩ := g.gl hg
  refine PI.imp (PI.or (pi_enum g1 (g.fx.free "enumerate" (by decide)) (s_cons hs ha s_nil) (noStar_ok hs _ _)) (pi_enuS g1 (g.fx.free "enumerate" (by decide)) (s_cons hs ha s_nil) (noStar_ok hs _ _))) fun σ H R h => ?_
  obtain ⟨p, F, G, r, M, sr, er, h⟩ := h
  have h0 : Tk X.K ca (ItR X.K ca) W G p F ((evE C a r M).bind srEnu) R := h
  by_cases hx : ∃ x M1, evE C a r M = .ok (.t (.str x)) M1
  · obtain ⟨x, M1, e1⟩ := hx
    right
    refine ⟨p, F, G, r, M, sr, er, ?_⟩
    show Tk X.K ca (RDs X.K ca) W G p F ((evE C a r M).bind fun d M => .ok [d] M) _
    rw [e1] at h0 ⊢
    intro p1 F1 H1 vs a1 b1 s1 r1
    obtain ⟨v, rfl, k1⟩ := one_of r1
    have ev : v = .str x := k1
    subst ev
    exact ⟨x, rfl, Tk.ok (Tk.pre (show Tk X.K ca (ItR X.K ca) W G p F (.ok (.fix (enuL 0 (sgL x))) M1) R from h0) a1 b1) s1 itF_enuS⟩
  left
  refine ⟨p, F, G, r, M, sr, er, ?_⟩
  show Tk X.K ca (RDs X.K ca) W G p F ((evE C a r M).bind fun d M => .ok [d] M) _
  have fin := (Tk.bind (rel := RD X.K ca) h0)
  cases q : evE C a r M with
  | stuck => rw [q] at fin; exact fin
  | exc c fs M1 => rw [q] at fin; exact fin
  | ok x M1 =>
    intro p1 F1 H1 vs a1 b1 s1 r1
    obtain ⟨v, rfl, k1⟩ := one_of r1
    rw [q] at h0
    have h1 : Tk X.K ca (ItR X.K ca) W G p1 F1 (srEnu x M1) R := Tk.pre h0 a1 b1
    cases x with
    | ref i => exact h1.elim
    | t y =>
      cases y with
      | str x => exact absurd ⟨x, M1, q⟩ hx
      | lst m =>
        obtain ⟨b, ws, k1, k2, k3⟩ := k1
        exact ⟨b, ws, by rw [k1], SqL.of (s1.fr _ _ k2), Tk.ok (show Tk X.K ca (ItR X.K ca) W G p1 F1 (.ok (.fix (enuL 0 (m.map .t))) M1) R from h1) s1 (itF_enu (SqL.of k2) (RTs.toD k3))⟩
      | _ => exact h1.elim
    | tup m => exact h1.elim
    | lst m =>
      obtain ⟨b, ws, k1, k2, k3⟩ := k1
      exact ⟨b, ws, by rw [k1], SqL.of (s1.fr _ _ k2), Tk.ok (show Tk X.K ca (ItR X.K ca) W G p1 F1 (.ok (.fix (enuL 0 m)) M1) R from h1) s1 (itF_enu (SqL.of k2) k3)⟩
theorem s_zip (g : Good P fns ca fa fdt C k X N sc W) {a b : Ex} {a' b' : Expr} {pp pos tpos : Pos} {elts : List Expr} {kk : Nat} (hg : glB sc "zip" = true) (hs : noStar a' = true) (hs2 : noStar b' = true) (ha : SE ca C X W a a') (hb : SE ca C X W b b') : SI ca C X W (.Tuple elts kk tpos) (.zip a b) (.Call (.Name "zip" pp) [a', b'] [] pos) := by
  obtain ⟨g1, g2, g3⟩ := g.gl hg
  refine PI.imp (pi_zip g1 (g.fx.free "zip" (by decide)) (s_cons hs ha (s_cons hs2 hb s_nil)) (noStar_ok hs _ _) (star_any (by simp [hs2]))) fun σ H R h => ?_
  obtain ⟨p, F, G, r, M, sr, er, h⟩ := h
  have h0 : Tk X.K ca (ItR X.K ca) W G p F ((evE C a r M).bind fun x M => (evE C b r M).bind fun y M => srZip x y M) R := h
  refine ⟨p, F, G, r, M, sr, er, ?_⟩
  show Tk X.K ca (RDs X.K ca) W G p F ((evE C a r M).bind fun d M => ((evE C b r M).bind fun e M => .ok [e] M).bind fun ds M => .ok (d :: ds) M) _
  cases q : evE C a r M with
  | stuck => rw [q] at h0; exact h0
  | exc c fs M1 => rw [q] at h0; exact h0
  | ok x M1 =>
    rw [q] at h0
    have h1 : Tk X.K ca (ItR X.K ca) W G p F ((evE C b r M1).bind fun y M => srZip x y M) R := h0
    show Tk X.K ca (RDs X.K ca) W G p F (((evE C b r M1).bind fun e M => .ok [e] M).bind fun ds M => .ok (x :: ds) M) _
    cases q2 : evE C b r M1 with
    | stuck => rw [q2] at h1; exact h1
    | exc c fs M2 => rw [q2] at h1; exact h1
    | ok y M2 =>
      rw [q2] at h1
      have h2 : Tk X.K ca (ItR X.K ca) W G p F (srZip x y M2) R := h1
      intro p1 F1 H1 vs a1 b1 s1 r1
      obtain ⟨v, w, rfl, k1, k2⟩ := two_of r1
      have h3 := Tk.pre h2 a1 b1
      have key : ∀ {d : D} {u : V} {l : List D}, RD X.K ca p1 F1 d u → (∀ i, d ≠ .ref i) → lsOf M2 d = some l → ∃ b vs, u = .ref b ∧ SqL X.K F1 b vs ∧ RDs X.K ca p1 F1 l vs := fun {d u l} rd hd hl => by
        cases d with
        | ref i => exact absurd rfl (hd i)
        | tup m => cases hl
        | lst m =>
          cases hl
          obtain ⟨b, ws, z1, z2, z3⟩ := rd
          exact ⟨b, ws, z1, SqL.of z2, z3⟩
        | t y =>
          cases y with
          | lst m =>
            cases hl
            obtain ⟨b, ws, z1, z2, z3⟩ := rd
            exact ⟨b, ws, z1, SqL.of z2, RTs.toD z3⟩
          | _ => cases hl
      unfold srZip at h3
      split at h3
      · exact h3.elim
      · exact h3.elim
      · rename_i n1 n2
        split at h3
        · rename_i l m q3 q4
          obtain ⟨b1', us, e1, e2, e3⟩ := key k1 (fun i e => n1 i e) q3
          obtain ⟨b2', ws, f1, f2, f3⟩ := key k2 (fun i e => n2 i e) q4
          subst e1 f1
          exact ⟨b1', b2', us, ws, rfl, sqL_sub s1.fr e2, sqL_sub s1.fr f2, Tk.ok h3 s1 (itF_zip e2 f2 e3 f3)⟩
        · exact h3.elim
theorem s_tab (g : Good P fns ca fa fdt C k X N sc W) {x : Str} {l : List (Str × T)} {pos : Pos} (h1 : (x, l) ∈ P.tabs) (nd : (l.map (·.1)).Nodup) (hg : glB sc x = true) : SI ca C X W tg (.tab l) (.Name x pos) := by
  obtain ⟨g1, g2, g3⟩ := g.gl hg
  obtain ⟨a, es, m, t1, t2, t3⟩ := g.fx.tab x l h1
  refine PI.imp (pi_kd g1 t1 g2 t2 t3 nd) fun σ H R h => ?_
  obtain ⟨p, F, G, r, M, sr, er, h⟩ := h
  unfold evSr at h
  refine Tk.ok h sr ?_
  have : (l.map fun p : Str × T => D.t (.str p.1)) = (l.map (·.1)).map fun x => D.t (.str x) := by rw [List.map_map]; rfl
  rw [this]
  exact itF_tab
theorem tab_find {a : Addr} {es : Array DictEntry} {m : Nat} {l : List (Str × T)} {K : PySem.W.Frag} (t2 : KDict K X.w a es m) (t3 : Paired (fun (e : DictEntry) (q : Str × T) => (∃ t, e.key = .str q.1 t) ∧ ∃ v, RelV v e.val ∧ ∀ F, RT K ca F q.2 v) es.toList l) (s : Str) :
    (l.lookup s = none → PySem.W.nsIn K a s = some none) ∧ ∀ t, l.lookup s = some t → ∃ u v, PySem.W.nsIn K a s = some (some u) ∧ RelV v u ∧ ∀ F, RT K ca F t v := by
  have key : ∀ {es : List DictEntry} {l : List (Str × T)}, Paired (fun (e : DictEntry) (q : Str × T) => (∃ t, e.key = .str q.1 t) ∧ ∃ v, RelV v e.val ∧ ∀ F, RT K ca F q.2 v) es l →
      (es.any (·.refKey) = false) ∧ (l.lookup s = none → es.find? (·.key.isStr s) = none) ∧ ∀ t, l.lookup s = some t → ∃ e v, es.find? (·.key.isStr s) = some e ∧ RelV v e.val ∧ ∀ F, RT K ca F t v := fun {es l} r => by
    induction r with
    | nil => exact ⟨rfl, fun _ => rfl, fun t h => by cases h⟩
    | @cons e q es l h t ih =>
      obtain ⟨i0, i1, i2⟩ := ih
      obtain ⟨q1, q2⟩ := q
      obtain ⟨⟨tk, hk⟩, v, h2, h3⟩ := h
      have hk : e.key = .str q1 tk := hk
      have ex : e.key.isStr s = decide (q1 = s) := by rw [hk]; rfl
      refine ⟨by rw [List.any_cons, i0]; simp [DictEntry.refKey, hk], ?_⟩
      by_cases hq : q1 = s
      · subst hq
        have f1 : (e :: es).find? (fun e => e.key.isStr q1) = some e := by rw [List.find?_cons, ex]; simp
        have l1 : List.lookup q1 ((q1, q2) :: l) = some q2 := by simp [List.lookup]
        rw [f1, l1]
        exact ⟨fun z => (by cases z), fun t z => ⟨e, v, rfl, h2, (by cases z; exact h3)⟩⟩
      · have f1 : (e :: es).find? (fun e => e.key.isStr s) = es.find? (fun e => e.key.isStr s) := by rw [List.find?_cons, ex]; simp [hq]
        have hb : (s == q1) = false := beq_eq_false_iff_ne.mpr (Ne.symm hq)
        have l1 : List.lookup s ((q1, q2) :: l) = List.lookup s l := by simp only [List.lookup, hb]
        rw [f1, l1]
        exact ⟨i1, i2⟩
  obtain ⟨k0, k1, k2⟩ := key t3
  unfold PySem.W.nsIn
  rw [t2.at_]
  dsimp only
  refine ⟨fun h => ?_, fun t h => ?_⟩
  · rw [k1 h]
    dsimp only
    rw [k0]
    rfl
  · obtain ⟨e, v, e1, e2, e3⟩ := k2 t h
    rw [e1]
    exact ⟨e.val, v, rfl, e2, e3⟩
theorem OpR.or {f : Value → Value → Sem Value} {r r' : R2} (h : OpR X f r) (h' : OpR X f r') : OpR X f (fun x y H Q => r x y H Q ∨ r' x y H Q) := by
  intro pins s σ H x y v u Q I rx ry z
  rcases z with z | z
  · exact h pins s σ H x y v u Q I rx ry z
  · exact h' pins s σ H x y v u Q I rx ry z
theorem kd_none {a : Addr} {es : Array DictEntry} {n : Nat} {h : Heap} (D : KDict X.K X.w a es n) (hK : X.K.In h) : ∃ f, h.MapOf (noneKind X.prog X.w) a f ∧ f none = none := by
  refine ⟨fun k => findBy (noneKind X.prog X.w).is es k, ⟨_, es, n, hK _ _ D.at_, ⟨rfl, rfl, rfl⟩, rfl, fun e he => ?_, fun k => rfl⟩, ?_⟩
  · obtain ⟨x, t, q1, q2⟩ := D.lit.all e (Array.mem_toList_iff.mpr he)
    refine ⟨some (.inr x), ?_, q2⟩
    show keyIs (.inr x) e.key = true
    rw [q1]
    exact PySem.strKind_is X.prog X.w x t
  · have q : (es.find? fun e => nkIs none e.key) = none := by
      rw [Array.find?_eq_none]
      intro e he hq
      obtain ⟨x, t, q1, _⟩ := D.lit.all e (Array.mem_toList_iff.mpr he)
      rw [q1] at hq
      exact nomatch (show false = true from hq)
    show (es.find? fun e => nkIs none e.key).map (·.val) = none
    rw [q] <;> rfl
theorem op_in_kdN {a : Addr} {es : Array DictEntry} {n : Nat} (D : KDict X.K X.w a es n) : OpR X (compareOp .In) (fun x y H Q => x = .non ∧ y = .ref a ∧ Q (.bl false) H) := by
  intro pins s σ H x y v u Q I rx ry z
  obtain ⟨rfl, rfl, q⟩ := z
  obtain rfl : v = Value.none := rx
  obtain rfl : u = Value.ref a := ry
  obtain ⟨f, hm, hf⟩ := kd_none D I.kIn
  refine wpAny_in_of (show (noneKind X.prog X.w).is none .none = true from rfl) D.low hm ?_
  rw [hf]
  exact ⟨.bl false, H, I.tok _, rfl, q⟩
theorem op_notIn_kdN {a : Addr} {es : Array DictEntry} {n : Nat} (D : KDict X.K X.w a es n) : OpR X (compareOp .NotIn) (fun x y H Q => x = .non ∧ y = .ref a ∧ Q (.bl true) H) := by
  intro pins s σ H x y v u Q I rx ry z
  obtain ⟨rfl, rfl, q⟩ := z
  obtain rfl : v = Value.none := rx
  obtain rfl : u = Value.ref a := ry
  obtain ⟨f, hm, hf⟩ := kd_none D I.kIn
  refine wpAny_notIn_of (show (noneKind X.prog X.w).is none .none = true from rfl) D.low hm ?_
  rw [hf]
  exact ⟨.bl true, H, I.tok _, rfl, q⟩
theorem s_tabIn (g : Good P fns ca fa fdt C k X N sc W) {yes : Bool} {x : Str} {l : List (Str × T)} {a : Ex} {a' : Expr} {op : CmpOp} {pos pp : Pos} (h1 : (x, l) ∈ P.tabs) (hg : glB sc x = true) (ho : op = if yes then .In else .NotIn) (ha : SE ca C X W a a') : SE ca C X W (.tabIn yes l a) (.Compare a' [op] [.Name x pp] pos) := by
  obtain ⟨g1, g2, g3⟩ := g.gl hg
  obtain ⟨b, es, m, t1, t2, t3⟩ := g.fx.tab x l h1
  have down : ∀ σ H Q, TEo X.K ca W (evE C (.tabIn yes l a)) σ H Q → TEo X.K ca W (evE C a) σ H fun v H1 => (∃ z r, v = .str z ∧ PySem.W.nsIn X.K b z = some r ∧ Q (.bl (if yes then r.isSome else !r.isSome)) H1) ∨ (v = .non ∧ Q (.bl (!yes)) H1) := fun σ H Q h => by
    obtain ⟨p, F, G, r, M, sr, er, h⟩ := h
    refine ⟨p, F, G, r, M, sr, er, (Tk.bind (rel := RD X.K ca) h).mono fun v H1 ⟨p1, F1, y, M1, a1, b1, s1, r1, _, h1'⟩ => ?_⟩
    have hs : (∃ s, y = .t (.str s)) ∨ y = .t .non := by
      unfold tabInV at h1'
      split at h1'
      · exact .inl ⟨_, rfl⟩
      · exact .inr rfl
      · exact h1'.elim
    rcases hs with ⟨s, rfl⟩ | rfl
    rotate_left
    · exact .inr ⟨r1, Tk.ok h1' s1 rfl⟩
    left
    obtain ⟨u1, u2⟩ := tab_find t2 t3 s
    have ev : v = .str s := r1
    unfold tabInV at h1'
    cases q : l.lookup s with
    | none =>
      simp only [q] at h1'
      refine ⟨s, none, ev, u1 q, ?_⟩
      have := Tk.ok h1' s1 rfl
      cases yes <;> exact this
    | some t =>
      simp only [q] at h1'
      obtain ⟨u, w, w1, _⟩ := u2 t q
      refine ⟨s, some u, ev, w1, ?_⟩
      have := Tk.ok h1' s1 rfl
      cases yes <;> exact this
  cases yes with
  | true =>
    simp only [if_true] at ho
    subst ho
    refine PE.imp (pe_cmpR (OpR.or (op_in_kd t2) (op_in_kdN t2)) ha (pe_glob (v := .ref b) g1 t1 rfl g2) rfl) fun σ H Q h => ?_
    obtain ⟨p, F, G, r, M, sr, er, h⟩ := down σ H Q h
    exact ⟨p, F, G, r, M, sr, er, h.mono fun v H1 z => by
      rcases z with ⟨z, rr, e1, e2, q⟩ | ⟨e1, q⟩
      · exact .inl ⟨z, rr, e1, rfl, e2, q⟩
      · exact .inr ⟨e1, rfl, q⟩⟩
  | false =>
    simp only [Bool.false_eq_true, if_false] at ho
    subst ho
    refine PE.imp (pe_cmpR (OpR.or (op_notIn_kd t2) (op_notIn_kdN t2)) ha (pe_glob (v := .ref b) g1 t1 rfl g2) rfl) fun σ H Q h => ?_
    obtain ⟨p, F, G, r, M, sr, er, h⟩ := down σ H Q h
    exact ⟨p, F, G, r, M, sr, er, h.mono fun v H1 z => by
      rcases z with ⟨z, rr, e1, e2, q⟩ | ⟨e1, q⟩
      · exact .inl ⟨z, rr, e1, rfl, e2, q⟩
      · exact .inr ⟨e1, rfl, q⟩⟩
theorem s_tabInT (g : Good P fns ca fa fdt C k X N sc W) {yes : Bool} {x : Str} {l : List (Str × T)} {a : Ex} {a' : Expr} {op : CmpOp} {pos pp : Pos} (h1 : (x, l) ∈ P.tabs) (hg : glB sc x = true) (ho : op = if yes then .In else .NotIn) (ha : SE ca C X W a a') : ST ca C X W (.tabIn yes l a) (.Compare a' [op] [.Name x pp] pos) := by
  obtain ⟨g1, g2, g3⟩ := g.gl hg
  obtain ⟨b, es, m, t1, t2, t3⟩ := g.fx.tab x l h1
  have down : ∀ σ H Q, TTo X.K ca W (evT C (.tabIn yes l a)) σ H Q → TEo X.K ca W (evE C a) σ H fun v H1 => (∃ z r, v = .str z ∧ PySem.W.nsIn X.K b z = some r ∧ Q (if yes then r.isSome else !r.isSome) H1) ∨ (v = .non ∧ Q (!yes) H1) := fun σ H Q h => by
    obtain ⟨p, F, G, r, M, sr, er, h⟩ := h
    have h' : Tk X.K ca (fun _ _ (a b : Bool) => a = b) W G p F (Res.bind ((evE C a r M).bind fun x M => tabInV yes l x M) truV) Q := h
    rw [Res.bind_assoc] at h'
    refine ⟨p, F, G, r, M, sr, er, (Tk.bind (rel := RD X.K ca) h').mono fun v H1 ⟨p1, F1, y, M1, a1, b1, s1, r1, _, h1'⟩ => ?_⟩
    have hs : (∃ s, y = .t (.str s)) ∨ y = .t .non := by
      unfold tabInV at h1'
      split at h1'
      · exact .inl ⟨_, rfl⟩
      · exact .inr rfl
      · exact h1'.elim
    rcases hs with ⟨s, rfl⟩ | rfl
    rotate_left
    · exact .inr ⟨r1, Tk.ok (show Tk X.K ca (fun _ _ (a b : Bool) => a = b) W G p1 F1 (.ok (!yes) M1) Q from h1') s1 rfl⟩
    left
    obtain ⟨u1, u2⟩ := tab_find t2 t3 s
    have ev : v = .str s := r1
    unfold tabInV at h1'
    cases q : l.lookup s with
    | none =>
      simp only [q] at h1'
      refine ⟨s, none, ev, u1 q, ?_⟩
      have := Tk.ok (show Tk X.K ca (fun _ _ (a b : Bool) => a = b) W G p1 F1 (.ok (!yes) M1) Q from h1') s1 rfl
      cases yes <;> exact this
    | some t =>
      simp only [q] at h1'
      obtain ⟨u, w, w1, _⟩ := u2 t q
      refine ⟨s, some u, ev, w1, ?_⟩
      have := Tk.ok (show Tk X.K ca (fun _ _ (a b : Bool) => a = b) W G p1 F1 (.ok yes M1) Q from h1') s1 rfl
      cases yes <;> exact this
  cases yes with
  | true =>
    simp only [if_true] at ho
    subst ho
    refine PT.imp (pt_cmpR (OpR.or (op_in_kd t2) (op_in_kdN t2)) ha (pe_glob (v := .ref b) g1 t1 rfl g2) rfl) fun σ H Q h => ?_
    obtain ⟨p, F, G, r, M, sr, er, h⟩ := down σ H Q h
    exact ⟨p, F, G, r, M, sr, er, h.mono fun v H1 z => by
      rcases z with ⟨z, rr, e1, e2, q⟩ | ⟨e1, q⟩
      · exact .inl ⟨z, rr, e1, rfl, e2, _, rfl, q⟩
      · exact .inr ⟨e1, rfl, _, rfl, q⟩⟩
  | false =>
    simp only [Bool.false_eq_true, if_false] at ho
    subst ho
    refine PT.imp (pt_cmpR (OpR.or (op_notIn_kd t2) (op_notIn_kdN t2)) ha (pe_glob (v := .ref b) g1 t1 rfl g2) rfl) fun σ H Q h => ?_
    obtain ⟨p, F, G, r, M, sr, er, h⟩ := down σ H Q h
    exact ⟨p, F, G, r, M, sr, er, h.mono fun v H1 z => by
      rcases z with ⟨z, rr, e1, e2, q⟩ | ⟨e1, q⟩
      · exact .inl ⟨z, rr, e1, rfl, e2, _, rfl, q⟩
      · exact .inr ⟨e1, rfl, _, rfl, q⟩⟩
theorem s_tabGet (g : Good P fns ca fa fdt C k X N sc W) {x : Str} {l : List (Str × T)} {a : Ex} {a' : Expr} {pos pp : Pos} (h1 : (x, l) ∈ P.tabs) (hg : glB sc x = true) (hs : noSlice a' = true) (ha : SE ca C X W a a') : SE ca C X W (.tabGet l a) (.Subscript (.Name x pp) a' pos) := by
  obtain ⟨g1, g2, g3⟩ := g.gl hg
  obtain ⟨b, es, m, t1, t2, t3⟩ := g.fx.tab x l h1
  refine PE.imp (t := fun σ H Q => TEo X.K ca W (evE C a) σ H fun v H1 => ∃ z u v0, v = .str z ∧ PySem.W.nsIn X.K b z = some (some u) ∧ RelV v0 u ∧ Q v0 H1) ⟨fun pins s σ H Q I h => ?_⟩ fun σ H Q h => ?_
  · refine subD_of PySem.F.slot_dict_getitem.lookup (noSlice_ok hs) (ld_glob I g1 t1 ?_ g2)
    refine thn (ha.run pins s σ H _ I h) fun iv s2 ⟨y, H2, I2, ry, z, u, v0, ey, e1, e2, q⟩ => ?_
    subst ey
    exact ⟨kd_type t2 I2, op_item_kd t2 pins s2 σ H2 (.ref b) (.str z) _ iv Q I2 rfl ry ⟨z, u, v0, rfl, rfl, e1, e2, q⟩⟩
  · obtain ⟨p, F, G, r, M, sr, er, h⟩ := h
    refine ⟨p, F, G, r, M, sr, er, (Tk.bind (rel := RD X.K ca) h).mono fun v H1 ⟨p1, F1, y, M1, a1, b1, s1, r1, _, h1'⟩ => ?_⟩
    have hs : ∃ s, y = .t (.str s) := by
      unfold tabGetV at h1'
      split at h1'
      · exact ⟨_, rfl⟩
      · exact h1'.elim
    obtain ⟨s, rfl⟩ := hs
    obtain ⟨u1, u2⟩ := tab_find t2 t3 s
    unfold tabGetV at h1'
    cases q : l.lookup s with
    | none => simp only [q] at h1'; exact h1'.elim
    | some t =>
      simp only [q] at h1'
      obtain ⟨u, w, w1, w2, w3⟩ := u2 t q
      exact ⟨s, u, w, r1, w1, w2, Tk.ok h1' s1 (w3 F1)⟩
end
end Rw
end
section
set_option Elab.async false
set_option linter.all false
set_option maxRecDepth 100000
namespace Rw
open PySem PySem.Spec PyProof.Rows L2
def SlE (vs : List Nat) (σ σ' : L2.St) : Prop := σ'.length = σ.length ∧ ∀ i : Nat, i ∉ vs → σ'[i]? = σ[i]?
theorem SlE.trans {vs ws : List Nat} {a b c : L2.St} (h : SlE vs a b) (k : SlE ws b c) : SlE (vs ++ ws) a c :=
  ⟨k.1.trans h.1, fun i hi => (k.2 i fun z => hi (List.mem_append_right _ z)).trans (h.2 i fun z => hi (List.mem_append_left _ z))⟩
theorem wipe_in {σ : L2.St} {i : Nat} : ∀ {vs : List Nat}, i ∈ vs → i < σ.length → (wipe σ vs)[i]? = some none
  | v :: vs, h, hl => by
    unfold wipe
    by_cases e : v = i
    · subst e
      rw [List.getElem?_set_self (by rw [wipe_length]; exact hl)]
    · rw [List.getElem?_set_ne e]
      rcases List.mem_cons.mp h with z | z
      · exact absurd z.symm e
      · exact wipe_in z hl
theorem wipe_eq {σ σ' : L2.St} {vs : List Nat} (h : SlE vs (wipe σ vs) σ') : wipe σ' vs = wipe σ vs := by
  have len : σ'.length = σ.length := by rw [h.1, wipe_length]
  apply List.ext_getElem?
  intro i
  by_cases hi : i ∈ vs
  · by_cases hl : i < σ.length
    · rw [wipe_in hi (by rw [len]; exact hl), wipe_in hi hl]
    · rw [List.getElem?_eq_none (by rw [wipe_length, len]; omega), List.getElem?_eq_none (by rw [wipe_length]; omega)]
  · rw [wipe_out hi, h.2 i hi]
theorem wipeE_length (r : En) : ∀ vs : List Nat, (wipeE r vs).length = r.length
  | [] => rfl
  | v :: vs => by unfold wipeE; rw [List.length_set, wipeE_length r vs]
theorem wipeE_some {r : En} {i : Nat} {d : D} : ∀ {vs : List Nat}, (wipeE r vs)[i]? = some (some d) → r[i]? = some (some d) ∧ i ∉ vs
  | [], h => ⟨h, by simp⟩
  | v :: vs, h => by
    unfold wipeE at h
    by_cases e : v = i
    · subst e
      by_cases hl : v < (wipeE r vs).length
      · rw [List.getElem?_set_self hl] at h; cases h
      · rw [List.getElem?_eq_none (by rw [List.length_set]; omega)] at h; cases h
    · rw [List.getElem?_set_ne e] at h
      obtain ⟨h1, h2⟩ := wipeE_some h
      exact ⟨h1, by simp only [List.mem_cons, not_or]; exact ⟨fun z => e z.symm, h2⟩⟩
section
variable {K : PySem.W.Frag} {p : List Addr} {F : Hp}
theorem ER.wipe {r : En} {σ : L2.St} (h : ER K ca p F r σ) (vs : List Nat) : ER K ca p F (wipeE r vs) (L2.wipe σ vs) := by
  refine ⟨by rw [wipeE_length, wipe_length]; exact h.1, fun i d e => ?_⟩
  obtain ⟨e1, e2⟩ := wipeE_some e
  obtain ⟨v, h1, h2⟩ := h.2 i d e1
  exact ⟨v, by rw [wipe_out e2]; exact h1, h2⟩
theorem ER.set {r : En} {σ : L2.St} {i : Nat} {d : D} {v : V} (h : ER K ca p F r σ) (rd : RD K ca p F d v) : ER K ca p F (r.set i (some d)) (σ.set i (some v)) := by
  refine ⟨by rw [List.length_set, List.length_set]; exact h.1, fun j e q => ?_⟩
  by_cases hj : i = j
  · subst hj
    have hl : i < r.length := by
      have := (List.getElem?_eq_some_iff.mp q).1
      simpa using this
    rw [List.getElem?_set_self hl] at q
    cases q
    exact ⟨v, by rw [List.getElem?_set_self (by rw [← h.1]; exact hl)], rd⟩
  · rw [List.getElem?_set_ne hj] at q ⊢
    exact h.2 j e q
end
section
variable (K : PySem.W.Frag) (ca : Nat → Addr)
def TGo (tg : Tg) : TG := fun v σ H Q => ∃ p F G M d r r', SR K ca p F G M H ∧ ER K ca p F r σ ∧ RD K ca p F d v ∧ asg tg d M r = some r' ∧ ∀ σ', ER K ca p F r' σ' → SlE tg.slots σ σ' → Q σ' H
def TGos (ts : List Tg) : TGs := fun vs σ H Q => ∃ p F G M ds r r', SR K ca p F G M H ∧ ER K ca p F r σ ∧ RDs K ca p F ds vs ∧ asgs ts ds M r = some r' ∧ ∀ σ', ER K ca p F r' σ' → SlE (slotsL ts) σ σ' → Q σ' H
end
def locB (sc : Scope) (fb : Str → Bool) (x : Str) : Bool := match sc.names.lookup x with
  | some .local => true
  | some .cell => fb x
  | _ => false
mutual
def chkTg (N : List Str) (sc : Scope) (fb : Str → Bool) : Tg → Expr → Bool
  | .var i, .Name x _ => decide (N[i]? = some x) && locB sc fb x
  | .tup ts, .Tuple es _ _ => chkTgs N sc fb ts es
  | _, _ => false
def chkTgs (N : List Str) (sc : Scope) (fb : Str → Bool) : List Tg → List Expr → Bool
  | [], [] => true
  | t :: ts, e :: es => chkTg N sc fb t e && chkTgs N sc fb ts es
  | _, _ => false
end
section
variable {X : Cx} {ca : Nat → Addr} {N : List Str} {sc : Scope} {fb : Str → Bool}
theorem PG.imp {e : Expr} {t t' : TG} (h : PG X e t) (k : ∀ v σ H Q, t' v σ H Q → t v σ H Q) : PG X e t' := ⟨fun pins s σ H v u Q I r q => h.run pins s σ H v u Q I r (k v σ H Q q)⟩
theorem PGs.imp {e : List Expr} {t t' : TGs} (h : PGs X e t) (k : ∀ v σ H Q, t' v σ H Q → t v σ H Q) : PGs X e t' := ⟨fun pins s σ H v u Q I r q => h.run pins s σ H v u Q I r (k v σ H Q q)⟩
theorem PG.or {e : Expr} {t t' : TG} (h : PG X e t) (h' : PG X e t') : PG X e (fun v σ H Q => t v σ H Q ∨ t' v σ H Q) := ⟨fun pins s σ H v u Q I r q => by
  rcases q with q | q
  · exact h.run pins s σ H v u Q I r q
  · exact h'.run pins s σ H v u Q I r q⟩
theorem tg_plain : ∀ {t : Tg} {e : Expr} {es : List Expr} {env : Env}, chkTg N sc fb t e = true → assignEach (e :: es) env = (false, assign e env) :: assignEach es env
  | t, e, es, env, h => by
    cases e <;> first | rfl | (cases t <;> cases h)
theorem tgs_len : ∀ {ts : List Tg} {es : List Expr} {env : Env}, chkTgs N sc fb ts es = true → (assignEach es env).length = ts.length ∧ (assignEach es env).findIdx? (·.1) = none
  | [], [], _, _ => ⟨rfl, rfl⟩
  | t :: ts, e :: es, env, h => by
    have h' : chkTg N sc fb t e = true ∧ chkTgs N sc fb ts es = true := by simpa [chkTgs] using h
    obtain ⟨i1, i2⟩ := tgs_len (env := env) h'.2
    rw [tg_plain h'.1]
    refine ⟨by rw [List.length_cons, List.length_cons, i1], ?_⟩
    rw [List.findIdx?_cons, i2]
    rfl
  | [], _ :: _, _, h => by cases h
  | _ :: _, [], _, h => by cases h
theorem asgs_len : ∀ {ts : List Tg} {ds : List D} {M : Ar} {r r' : En}, asgs ts ds M r = some r' → ds.length = ts.length
  | [], [], _, _, _, _ => rfl
  | [], _ :: _, _, _, _, h => by unfold asgs at h; cases h
  | _ :: _, [], _, _, _, h => by unfold asgs at h; cases h
  | t :: ts, d :: ds, M, r, r', h => by
    unfold asgs at h
    cases q1 : asg t d M r with
    | none => simp only [q1] at h; cases h
    | some r1 =>
      simp only [q1] at h
      rw [List.length_cons, List.length_cons, asgs_len h]
mutual
theorem s_tg (hN : X.N = N) (nd : N.Nodup) (hsc : X.env.scope = sc) (hc : X.calm = true) (hfn : ∀ x, fb x = true → X.fn x = true) : ∀ (t : Tg) (e : Expr), chkTg N sc fb t e = true → PG X e (TGo X.K ca t)
  | .var i, e, h => by
    cases e with
    | Name x pos =>
      have h' : N[i]? = some x ∧ locB sc fb x = true := by simpa [chkTg] using h
      obtain ⟨h1, h2⟩ := h'
      have hl : (sc.names.lookup x = some .local) ∨ (sc.names.lookup x = some .cell ∧ fb x = true) := by
        unfold locB at h2
        split at h2
        · exact .inl (by assumption)
        · exact .inr ⟨by assumption, h2⟩
        · cases h2
      refine PG.imp (pg_name (i := i) (by rw [hN]; exact nd) (by rw [hN]; exact h1) ?_ ?_) fun v σ H Q q => ?_
      · unfold L2.Loc
        rw [hsc]
        rcases hl with z | z
        · exact .inl z
        · exact .inr z.1
      · rw [hsc]
        rcases hl with z | z
        · exact .inr z
        · exact .inl (hfn x z.2)
      · obtain ⟨p, F, G, M, d, r, r', sr, er, rd, e1, q⟩ := q
        unfold asg at e1
        split at e1
        · cases e1
          refine q _ (er.set rd) ⟨by rw [List.length_set], fun j hj => ?_⟩
          rw [List.getElem?_set_ne]
          intro z
          exact hj (by simp [Tg.slots, z])
        · cases e1
    | _ => cases h
  | .tup ts, e, h => by
    cases e with
    | Tuple es j pos =>
      have h' : chkTgs N sc fb ts es = true := h
      obtain ⟨l1, l2⟩ := tgs_len (env := X.env) h'
      have ih := s_tgs hN nd hsc hc hfn ts es h'
      refine PG.imp (PG.or (pg_tup hc ih l1 l2) (pg_lst hc ih l1 l2)) fun v σ H Q q => ?_
      obtain ⟨p, F, G, M, d, r, r', sr, er, rd, e1, q⟩ := q
      unfold asg at e1
      cases q1 : tpOf d with
      | some l =>
        simp only [q1] at e1
        obtain ⟨a, vs, k1, k2, k3⟩ := tpOf_ok sr rd q1
        refine .inl ⟨a, vs, k1, sqT_sub sr.fr k2, ?_, p, F, G, M, l, r, r', sr, er, k3, e1, q⟩
        rw [← k3.length]; exact asgs_len e1
      | none =>
        simp only [q1] at e1
        cases q2 : lsOf M d with
        | none => simp only [q2] at e1; cases e1
        | some l =>
          simp only [q2] at e1
          obtain ⟨a, vs, k1, k2, k3⟩ := lsOf_ok sr rd q2
          refine .inr ⟨a, vs, k1, SqL.of k2, ?_, p, F, G, M, l, r, r', sr, er, k3, e1, q⟩
          rw [← k3.length]; exact asgs_len e1
    | _ => cases h
theorem s_tgs (hN : X.N = N) (nd : N.Nodup) (hsc : X.env.scope = sc) (hc : X.calm = true) (hfn : ∀ x, fb x = true → X.fn x = true) : ∀ (ts : List Tg) (es : List Expr), chkTgs N sc fb ts es = true → PGs X es (TGos X.K ca ts)
  | [], es, h => by
    cases es with
    | nil =>
      refine PGs.imp pgs_nil fun v σ H Q q => ?_
      obtain ⟨p, F, G, M, ds, r, r', sr, er, rd, e1, q⟩ := q
      cases ds with
      | nil =>
        unfold asgs at e1
        cases e1
        exact ⟨rd, q σ er ⟨rfl, fun _ _ => rfl⟩⟩
      | cons d ds => unfold asgs at e1; cases e1
    | cons e es => cases h
  | t :: ts, es, h => by
    cases es with
    | nil => cases h
    | cons e es =>
      have h' : chkTg N sc fb t e = true ∧ chkTgs N sc fb ts es = true := by simpa [chkTgs] using h
      refine PGs.imp (pgs_cons (s_tg hN nd hsc hc hfn t e h'.1) (s_tgs hN nd hsc hc hfn ts es h'.2) (by rw [tg_plain h'.1]; rfl)) fun vs σ H Q q => ?_
      obtain ⟨p, F, G, M, ds, r, r', sr, er, rd, e1, q⟩ := q
      cases ds with
      | nil => unfold asgs at e1; cases e1
      | cons d ds =>
        unfold asgs at e1
        cases q1 : asg t d M r with
        | none => simp only [q1] at e1; cases e1
        | some r1 =>
          simp only [q1] at e1
          obtain ⟨v, w, ev, k1, k2⟩ := rd
          refine ⟨v, w, ev, p, F, G, M, d, r, r1, sr, er, k1, q1, fun σ1 er1 sl1 => ?_⟩
          exact ⟨p, F, G, M, ds, r1, r', sr, er1, k2, e1, fun σ2 er2 sl2 => q σ2 er2 (sl1.trans sl2)⟩
end
def cmpBody (C : Cal) (tg : Tg) (c : Option Ex) (e : Ex) (r : En) (d : D) (M : Ar) : Res (Option D) := noExc (match asg tg d M (wipeE r tg.slots) with
  | none => .stuck
  | some r' => (evC C c r' M).bind fun k M => match k with
    | true => (evE C e r' M).bind fun x M => .ok (some x) M
    | false => .ok none M)
abbrev W0 : XK := fun _ _ _ => False
theorem noExc_tk {K : PySem.W.Frag} {α β γ δ : Type} {rel : List Addr → Hp → α → β → Prop} {rel' : List Addr → Hp → γ → δ → Prop} {p : List Addr} {F G G' : Hp} {W : XK} {r : Res α} {f : α → Ar → Res γ} {Q : δ → Hp → Prop} (hs : Sub G G') (h : Tk K ca rel' W G p F ((noExc r).bind f) Q) :
    Tk K ca rel W0 G' p F r (fun v H' => ∃ p' F' a M', Pre p p' ∧ Sub F F' ∧ SR K ca p' F' G' M' H' ∧ rel p' F' a v ∧ r = .ok a M' ∧ Tk K ca rel' W G p' F' (f a M') Q) := by
  cases r with
  | ok a M =>
    intro p' F' H' v h1 h2 h3 h4
    exact ⟨p', F', a, M, h1, h2, h3, h4, rfl, Tk.pre (show Tk K ca rel' W G p F (f a M) Q from h) h1 h2⟩
  | exc c fs M => exact h.elim
  | stuck => exact h
/-- the list that was the frame's is a new list -/
theorem mkL_frame {K : PySem.W.Frag} {p : List Addr} {F G H : Hp} {M : Ar} {W : XK} {mu : Bool} {l : List D} {vs : List V} {Q : VK} {a : Addr} (nG : G a = none) (s : SR K ca p F (upd G a (.lst vs)) M H) (r : RDs K ca p F l vs) (h : Tk K ca (RD K ca) W G p F (mkL mu l M) Q) : Q (.ref a) H := by
  have ha : H a = some (.lst vs) := s.gr _ _ upd_same
  have nf : F a = none := by
    rcases s.fg a with h | h
    · exact h
    · rw [upd_same] at h; cases h
  have np : a ∉ p := fun h => by have := s.pg a h; rw [upd_same] at this; cases this
  have s0 := s.lessG (sub_upd (o := .lst vs) nG)
  cases mu with
  | true =>
    refine h (p ++ [a]) F H (.ref a) (Pre.app p a) (Sub.refl _) ?_ ⟨a, by rw [← s.len]; simp, rfl⟩
    refine ⟨by simp [s.len], List.nodup_append.mpr ⟨s.nd, by simp, fun x hx y hy => ?_⟩, s0.fr, s0.gr, s0.fg, fun b hb => ?_, fun b hb => ?_, fun i b u e1 e2 => ?_⟩
    · have : y = a := by simpa using hy
      subst this
      exact fun e => np (e ▸ hx)
    · rcases List.mem_append.mp hb with h | h
      · exact s.pf b h
      · have : b = a := by simpa using h
        subst this; exact nf
    · rcases List.mem_append.mp hb with h | h
      · exact s0.pg b h
      · have : b = a := by simpa using h
        subst this; exact nG
    · by_cases hi : i < M.length
      · have e1' : p[i]? = some b := by
          rw [List.getElem?_append_left (by rw [s.len]; exact hi)] at e1; exact e1
        have e2' : M[i]? = some u := by
          rw [List.getElem?_append_left hi] at e2; exact e2
        exact (s.ob i b u e1' e2').sub (Pre.app p a) (Sub.refl _) rfl
      · have hl : i < (M ++ [MO.lst l]).length := (List.getElem?_eq_some_iff.mp e2).1
        have hi' : i = M.length := by simp at hl; omega
        subst hi'
        have e1' : b = a := by
          rw [List.getElem?_append_right (by rw [s.len]; exact Nat.le_refl _), ← s.len] at e1
          simpa using e1.symm
        have e2' : u = .lst l := by
          rw [List.getElem?_append_right (by omega)] at e2
          simpa using e2.symm
        subst e1' e2'
        exact ⟨vs, ha, RDs.sub (Pre.app p b) (Sub.refl _) l vs r⟩
  | false =>
    have sb : Sub F (upd F a (.lst vs)) := sub_upd nf
    refine h p (upd F a (.lst vs)) H (.ref a) (Pre.refl _) sb ?_ (RDs.frzL (RDs.sub (Pre.refl _) sb l vs r) upd_same)
    refine ⟨s.len, s.nd, fun b u e => ?_, s0.gr, fun b => ?_, fun b hb => ?_, s0.pg, fun i b u e1 e2 => (s.ob i b u e1 e2).sub (Pre.refl _) sb rfl⟩
    · by_cases hb : b = a
      · subst hb; rw [upd_same] at e; cases e; exact ha
      · rw [upd_ne hb] at e; exact s.fr b u e
    · by_cases hb : b = a
      · subst hb; exact .inr nG
      · rw [upd_ne hb]; exact s0.fg b
    · have : b ≠ a := fun e => np (e ▸ hb)
      rw [upd_ne this]; exact s.pf b hb
/-- one turn: the target, the test, the element -/
theorem turn_step {C : Cal} {K : PySem.W.Frag} {W : XK} {tg : Tg} {c : Option Ex} {e : Ex} {r : En} {σ : L2.St} {p : List Addr} {F G G' H' : Hp} {M : Ar} {d : D} {x : V} {f : Option D → Ar → Res (List D)} {g : List D → Ar → Res D} {Q : VK}
    {Y : V → Hp → Prop} {Z : Hp → Prop} (hs : Sub G G') (sr : SR K ca p F G' M H') (er : ER K ca p F r σ) (rd : RD K ca p F d x) (h : Tk K ca (RD K ca) W G p F (((cmpBody C tg c e r d M).bind f).bind g) Q)
    (hy : ∀ y H2 p' F' M' yd, Pre p p' → Sub F F' → SR K ca p' F' G' M' H2 → RD K ca p' F' yd y → Tk K ca (RD K ca) W G p' F' ((f (some yd) M').bind g) Q → Y y H2)
    (hz : ∀ H2 p' F' M', Pre p p' → Sub F F' → SR K ca p' F' G' M' H2 → Tk K ca (RD K ca) W G p' F' ((f none M').bind g) Q → Z H2) :
    TGo K ca tg x (L2.wipe σ tg.slots) H' fun σ2 H2 => L2.wipe σ2 tg.slots = L2.wipe σ tg.slots ∧ TTo K ca W0 (evC C c) σ2 H2 fun b H3 => if b = true then TEo K ca W0 (evE C e) σ2 H3 Y else Z H3 := by
  rw [Res.bind_assoc] at h
  have er0 := er.wipe tg.slots
  unfold cmpBody at h
  cases q : asg tg d M (wipeE r tg.slots) with
  | none => simp only [q] at h; exact h.elim
  | some r' =>
    simp only [q] at h
    refine ⟨p, F, G', M, d, wipeE r tg.slots, r', sr, er0, rd, q, fun σ2 er2 sl => ⟨wipe_eq sl, ?_⟩⟩
    refine ⟨p, F, G', r', M, sr, er2, ?_⟩
    have h1 := noExc_tk (rel := fun (_ : List Addr) (_ : Hp) (a : Option D) (b : Option D) => a = b) hs h
    cases q1 : evC C c r' M with
    | stuck => simp only [q1] at h1; exact h1
    | exc a b m => simp only [q1] at h; exact h.elim
    | ok k M1 =>
      simp only [q1] at h
      intro p1 F1 H1 b a1 b1 s1 e1
      have e1' : k = b := e1
      subst e1'
      cases k with
      | true =>
        rw [if_pos rfl]
        refine ⟨p1, F1, G', r', M1, s1, er2.sub a1 b1, ?_⟩
        have h2 : Tk K ca (RD K ca) W G p F ((noExc ((evE C e r' M1).bind fun x M => .ok (some x) M)).bind fun a M => (f a M).bind g) Q := h
        cases q2 : evE C e r' M1 with
        | stuck => simp only [q2] at h2; exact h2.elim
        | exc a b m => simp only [q2] at h2; exact h2.elim
        | ok y M2 =>
          simp only [q2] at h2
          intro p2 F2 H2 v a2 b2 s2 r2
          exact hy v H2 p2 F2 M2 y (a1.trans a2) (b1.trans b2) s2 r2 (Tk.pre (show Tk K ca (RD K ca) W G p F ((f (some y) M2).bind g) Q from h2) (a1.trans a2) (b1.trans b2))
      | false =>
        rw [if_neg (by simp)]
        exact hz H1 p1 F1 M1 a1 b1 s1 (Tk.pre (show Tk K ca (RD K ca) W G p F ((f none M1).bind g) Q from h) a1 b1)
theorem comp_step {C : Cal} {W : XK} {mu : Bool} {tg : Tg} {s : Sr} {c : Option Ex} {e : Ex} {σ : L2.St} {H : Hp} {Q : VK} (h : TEo X.K ca W (evE C (.comp mu tg s c e)) σ H Q) :
    tLc (TIo X.K ca W (evSr C s)) (TGo X.K ca tg) (TTo X.K ca W0 (evC C c)) (TEo X.K ca W0 (evE C e)) tg.slots σ H Q := by
  obtain ⟨p, F, G, r, M, sr, er, h⟩ := h
  have h' : Tk X.K ca (RD X.K ca) W G p F ((evSr C s r M).bind fun I M => (cmpItm (cmpBody C tg c e r) I M).bind fun l M => mkL mu l M) Q := h
  refine ⟨p, F, G, r, M, sr, er, (Tk.bind (rel := ItR X.K ca) h').mono fun J H1 ⟨p1, F1, I, M1, a1, b1, s1, it, _, h1⟩ => ?_⟩
  intro D0 hD
  have er1 := er.sub a1 b1
  obtain ⟨nG1, nG2, nG3⟩ := s1.ne hD
  have sG : ∀ o, Sub G (upd G D0 o) := fun o => sub_upd nG3
  cases I with
  | fix l =>
    have it : ItF X.K ca l p1 F1 J := it
    refine ⟨fun i m H => ∃ p' F' M' acc accd, Pre p1 p' ∧ Sub F1 F' ∧ SR X.K ca p' F' (upd G D0 (.lst acc)) M' H ∧ RDs X.K ca p' F' accd acc ∧ i ≤ l.length ∧ m = l.length - i ∧ Tk X.K ca (RD X.K ca) W G p' F' ((cmpF (cmpBody C tg c e r) (l.drop i) accd M').bind fun l M => mkL mu l M) Q,
      ⟨l.length, p1, F1, M1, [], [], Pre.refl _, Sub.refl _, s1.addG hD, rfl, Nat.zero_le _, by simp, h1⟩, ?_⟩
    rintro i m H2 ⟨p', F', M', acc, accd, a2, b2, s2, ra, hi, rfl, h2⟩
    obtain ⟨stop, go⟩ := it i p' F' _ M' H2 a2 b2 s2
    by_cases hl : i < l.length
    · right
      obtain ⟨g1, g2⟩ := go l[i] (List.getElem?_eq_getElem hl)
      rw [List.drop_eq_getElem_cons hl] at h2
      refine ⟨g1, fun H => ∃ p' F' M' acc accd, Pre p1 p' ∧ Sub F1 F' ∧ SR X.K ca p' F' (upd G D0 (.lst acc)) M' H ∧ RDs X.K ca p' F' accd acc ∧ Tk X.K ca (RD X.K ca) W G p' F' ((cmpF (cmpBody C tg c e r) (l.drop (i + 1)) accd M').bind fun l M => mkL mu l M) Q,
        fun H' ⟨p3, F3, M3, acc3, accd3, z1, z2, z3, z4, z5⟩ => ⟨l.length - (i + 1), by omega, p3, F3, M3, acc3, accd3, z1, z2, z3, z4, hl, rfl, z5⟩, fun x H' y => ?_⟩
      obtain ⟨F3, c1, c2, c3⟩ := g2 x H' y
      have h3 : Tk X.K ca (RD X.K ca) W G p' F3 (((cmpBody C tg c e r l[i] M').bind fun o M => match o with
        | none => cmpF (cmpBody C tg c e r) (l.drop (i + 1)) accd M
        | some x => okIf (decide (accd.length < line)) (cmpF (cmpBody C tg c e r) (l.drop (i + 1)) (accd ++ [x]) M)).bind fun l M => mkL mu l M) Q := Tk.pre h2 (Pre.refl _) c1
      refine turn_step (sG _) c2 (er1.sub a2 (b2.trans c1)) c3 h3 (fun y H3 p4 F4 M4 yd x1 x2 x3 x4 x5 => ?_) (fun H3 p4 F4 M4 x1 x2 x3 x5 => ?_)
      · have x6 : (okIf (decide (accd.length < line)) (cmpF (cmpBody C tg c e r) (l.drop (i + 1)) (accd ++ [yd]) M4)) = _ := rfl
        cases q : decide (accd.length < line) with
        | false => simp only [q] at x5; exact x5.elim
        | true =>
          simp only [q] at x5
          have lt := of_decide_eq_true q
          have ra4 := RDs.sub x1 (c1.trans x2) accd acc ra
          rw [ra4.length, line_eq] at lt
          refine ⟨acc, x3.gr _ _ upd_same, lt, p4, F4, M4, acc ++ [y], accd ++ [yd], a2.trans x1, b2.trans (c1.trans x2), x3.setG, ra4.app (RDs.one x4), x5⟩
      · exact ⟨p4, F4, M4, acc, accd, a2.trans x1, b2.trans (c1.trans x2), x3, RDs.sub x1 (c1.trans x2) accd acc ra, x5⟩
    · left
      have ei : i = l.length := by omega
      refine ⟨stop (by omega), ?_⟩
      rw [ei, List.drop_length] at h2
      have h3 : Tk X.K ca (RD X.K ca) W G p' F' (mkL mu accd M') Q := h2
      -- the list at D0 leaves the frame
      exact mkL_frame nG3 s2 ra h3
  | live i0 n =>
    have it : ItL X.K ca i0 p1 J := it
    refine ⟨fun j m H => ∃ p' F' M' acc accd, Pre p1 p' ∧ Sub F1 F' ∧ SR X.K ca p' F' (upd G D0 (.lst acc)) M' H ∧ RDs X.K ca p' F' accd acc ∧ Tk X.K ca (RD X.K ca) W G p' F' ((cmpL (cmpBody C tg c e r) i0 m j accd M').bind fun l M => mkL mu l M) Q,
      ⟨n + 1, p1, F1, M1, [], [], Pre.refl _, Sub.refl _, s1.addG hD, rfl, h1⟩, ?_⟩
    rintro j m H2 ⟨p', F', M', acc, accd, a2, b2, s2, ra, h2⟩
    cases m with
    | zero => exact h2.elim
    | succ m =>
      unfold cmpL at h2
      cases q0 : M'[i0]? with
      | none => simp only [q0] at h2; exact h2.elim
      | some ob =>
        simp only [q0] at h2
        cases ob with
        | lst l =>
          simp only at h2
          obtain ⟨stop, go⟩ := it j p' F' _ M' H2 l a2 s2 q0
          cases q1 : l[j]? with
          | none =>
            simp only [q1] at h2
            exact .inl ⟨stop q1, mkL_frame nG3 s2 ra h2⟩
          | some d =>
            simp only [q1] at h2
            right
            obtain ⟨g1, g2⟩ := go d q1
            refine ⟨g1, fun H => ∃ p' F' M' acc accd, Pre p1 p' ∧ Sub F1 F' ∧ SR X.K ca p' F' (upd G D0 (.lst acc)) M' H ∧ RDs X.K ca p' F' accd acc ∧ Tk X.K ca (RD X.K ca) W G p' F' ((cmpL (cmpBody C tg c e r) i0 m (j + 1) accd M').bind fun l M => mkL mu l M) Q,
              fun H' z => ⟨m, Nat.lt_succ_self _, z⟩, fun x H' y => ?_⟩
            obtain ⟨eH, c3⟩ := g2 x H' y
            subst eH
            refine turn_step (sG _) s2 (er1.sub a2 b2) c3 h2 (fun y H3 p4 F4 M4 yd x1 x2 x3 x4 x5 => ?_) (fun H3 p4 F4 M4 x1 x2 x3 x5 => ?_)
            · cases q : decide (accd.length < line) with
              | false => simp only [q] at x5; exact x5.elim
              | true =>
                simp only [q] at x5
                have lt := of_decide_eq_true q
                have ra4 := RDs.sub x1 x2 accd acc ra
                rw [ra4.length, line_eq] at lt
                exact ⟨acc, x3.gr _ _ upd_same, lt, p4, F4, M4, acc ++ [y], accd ++ [yd], a2.trans x1, b2.trans x2, x3.setG, ra4.app (RDs.one x4), x5⟩
            · exact ⟨p4, F4, M4, acc, accd, a2.trans x1, b2.trans x2, x3, RDs.sub x1 x2 accd acc ra, x5⟩
        | _ => exact h2.elim
end
end Rw
end
section
set_option Elab.async false
set_option linter.all false
set_option maxRecDepth 100000
namespace Rw
open PySem PySem.Spec PyProof.Rows L2
section
variable {ca : Nat → Addr} {C : Cal} {W : XK}
def Alike (F F' : Hp) : Prop := ∀ b u, F b = some u → F' b = some u ∨ ∃ kvs, (u = .dK kvs ∨ ∃ d, u = .frz d (.dK kvs)) ∧ Rd F' b (.dK kvs)
section
variable {K : PySem.W.Frag} {p : List Addr} {F F' G H : Hp} {M : Ar}
theorem sqT_alike {a : Addr} {xs : List V} (s : Alike F F') (h : SqT K F a xs) : SqT K F' a xs := by
  rcases h with (h | ⟨o, h⟩) | h
  · rcases s _ _ h with z | ⟨kvs, z | ⟨d, z⟩, _⟩
    · exact .inl (.inl z)
    · cases z
    · cases z
  · rcases s _ _ h with z | ⟨kvs, z | ⟨d, z⟩, _⟩
    · exact .inl (.inr ⟨o, z⟩)
    · cases z
    · cases z
  · exact .inr h
theorem sqL_alike {a : Addr} {xs : List V} (s : Alike F F') (h : SqL K F a xs) : SqL K F' a xs := by
  rcases h with (h | ⟨o, h⟩) | h
  · rcases s _ _ h with z | ⟨kvs, z | ⟨d, z⟩, _⟩
    · exact .inl (.inl z)
    · cases z
    · cases z
  · rcases s _ _ h with z | ⟨kvs, z | ⟨d, z⟩, _⟩
    · exact .inl (.inr ⟨o, z⟩)
    · cases z
    · cases z
  · exact .inr h
theorem lst_alike {a : Addr} {xs : List V} (s : Alike F F') (h : F a = some (.lst xs)) : F' a = some (.lst xs) := by
  rcases s _ _ h with z | ⟨kvs, z | ⟨d, z⟩, _⟩
  · exact z
  · cases z
  · cases z
mutual
theorem RT.alike (s : Alike F F') : ∀ (t : T) (v : V), RT K ca F t v → RT K ca F' t v
  | .non, _, h => h
  | .bl _, _, h => h
  | .int _, _, h => h
  | .str _, _, h => h
  | .tup l, v, h => by
    obtain ⟨a, vs, e, h1, h2⟩ := h
    exact ⟨a, vs, e, sqT_alike s h1, RTs.alike s l vs h2⟩
  | .lst l, v, h => by
    obtain ⟨a, vs, e, h1, h2⟩ := h
    exact ⟨a, vs, e, lst_alike s h1, RTs.alike s l vs h2⟩
  | .scr l, v, h => by
    obtain ⟨a, e, h1⟩ := h
    exact ⟨a, e, sqL_alike s h1⟩
  | .dct ks l, v, h => by
    obtain ⟨a, us, e, h1, h2, h3⟩ := h
    refine ⟨a, us, e, ?_, h2, RTs.alike s l us h3⟩
    rcases h1 with h1 | ⟨o, h1⟩
    · rcases s _ _ h1 with z | ⟨kvs, z | ⟨d, z⟩, w⟩
      · exact .inl z
      · cases z; exact w
      · cases z
    · rcases s _ _ h1 with z | ⟨kvs, z | ⟨d, z⟩, w⟩
      · exact .inr ⟨o, z⟩
      · cases z
      · cases z; exact w
  | .obj c fs l, v, h => by
    obtain ⟨a, dx, us, e, h1, h2, h3⟩ := h
    refine ⟨a, dx, us, e, ?_, h2, RTs.alike s l us h3⟩
    rcases s _ _ h1 with z | ⟨kvs, z | ⟨d, z⟩, w⟩
    · exact z
    · cases z
    · cases z
theorem RTs.alike (s : Alike F F') : ∀ (l : List T) (vs : List V), RTs K ca F l vs → RTs K ca F' l vs
  | [], _, h => h
  | t :: r, vs, h => by
    obtain ⟨v, w, e, h1, h2⟩ := h
    exact ⟨v, w, e, RT.alike s t v h1, RTs.alike s r w h2⟩
end
mutual
theorem RD.alike (s : Alike F F') : ∀ (d : D) (v : V), RD K ca p F d v → RD K ca p F' d v
  | .t x, v, h => RT.alike s x v h
  | .ref i, v, h => h
  | .tup l, v, h => by
    obtain ⟨a, vs, e, h1, h2⟩ := h
    exact ⟨a, vs, e, sqT_alike s h1, RDs.alike s l vs h2⟩
  | .lst l, v, h => by
    obtain ⟨a, vs, e, h1, h2⟩ := h
    exact ⟨a, vs, e, lst_alike s h1, RDs.alike s l vs h2⟩
theorem RDs.alike (s : Alike F F') : ∀ (l : List D) (vs : List V), RDs K ca p F l vs → RDs K ca p F' l vs
  | [], _, h => h
  | d :: l, vs, h => by
    obtain ⟨v, w, e, h1, h2⟩ := h
    exact ⟨v, w, e, RD.alike s d v h1, RDs.alike s l w h2⟩
end
theorem ER.alike {r : En} {σ : L2.St} (h : ER K ca p F r σ) (s : Alike F F') : ER K ca p F' r σ := ⟨h.1, fun i d e => let ⟨v, h1, h2⟩ := h.2 i d e; ⟨v, h1, RD.alike s d v h2⟩⟩
theorem SR.alike {a : Addr} {o o' : HO} (s : SR K ca p F G M H) (ha : F a = some o) (al : Alike F (upd F a o')) : SR K ca p (upd F a o') G M (upd H a o') := by
  have ng : G a = none := by
    rcases s.fg a with z | z
    · rw [z] at ha; cases ha
    · exact z
  have np : a ∉ p := fun z => by rw [s.pf a z] at ha; cases ha
  refine ⟨s.len, s.nd, fun b u e => ?_, fun b u e => ?_, fun b => ?_, fun b hb => ?_, s.pg, fun i b m e1 e2 => ?_⟩
  · by_cases h : b = a
    · subst h; rw [upd_same] at e ⊢; exact e
    · rw [upd_ne h] at e ⊢; exact s.fr b u e
  · rw [upd_ne (ne_of_none e ng)]; exact s.gr b u e
  · by_cases h : b = a
    · subst h; exact .inr ng
    · rw [upd_ne h]; exact s.fg b
  · have : b ≠ a := fun e => np (e ▸ hb)
    rw [upd_ne this]; exact s.pf b hb
  · have hb : b ≠ a := fun e => np (e ▸ List.mem_of_getElem? e1)
    have r := s.ob i b m e1 e2
    cases m with
    | lst l => obtain ⟨vs, h1, h2⟩ := r; exact ⟨vs, by rw [upd_ne hb]; exact h1, RDs.alike al l vs h2⟩
    | dK l => obtain ⟨vs, h1, h2⟩ := r; exact ⟨vs, by rw [upd_ne hb]; exact h1, Paired.mapP h2 fun x y z => ⟨z.1, RD.alike al _ _ z.2⟩⟩
    | dT l => obtain ⟨vs, h1, h2⟩ := r; exact ⟨vs, by rw [upd_ne hb]; exact h1, Paired.mapP h2 fun x y z => ⟨z.1, RD.alike al _ _ z.2⟩⟩
    | obj c l => obtain ⟨dx, vs, h1, h2⟩ := r; exact ⟨dx, vs, by rw [upd_ne hb]; exact h1, Paired.mapP h2 fun x y z => ⟨z.1, RD.alike al _ _ z.2⟩⟩
    | gone => obtain ⟨o, h1⟩ := r; exact ⟨o, by rw [upd_ne hb]; exact h1⟩
theorem alike_upd {a : Addr} {o o' : HO} {kvs : List (Key × V)} (ha : F a = some o) (h1 : o = .dK kvs ∨ ∃ d, o = .frz d (.dK kvs)) (h2 : o' = .dK kvs ∨ ∃ d, o' = .frz d (.dK kvs)) : Alike F (upd F a o') := fun b u e => by
  by_cases h : b = a
  · subst h
    rw [ha] at e
    cases e
    refine .inr ⟨kvs, h1, ?_⟩
    rcases h2 with rfl | ⟨d, rfl⟩
    · exact .inl upd_same
    · exact .inr ⟨d, upd_same⟩
  · exact .inl (by rw [upd_ne h]; exact e)
end
theorem itF_keys {K : PySem.W.Frag} {p : List Addr} {F : Hp} {a : Addr} {od : Obj} {kvs : List (Key × V)} (h : F a = some (.frz od (.dK kvs))) : ItF K ca ((kvs.map (·.1)).map kD) p F (Itk a od kvs) := by
  intro i p' F' G M H hp hs sr
  have hH : H a = some (.frz od (.dK kvs)) := sr.fr _ _ (hs _ _ h)
  refine ⟨fun hi => ⟨hH, by simpa using hi⟩, fun d hd => ?_⟩
  have hi : i < kvs.length := by
    have := (List.getElem?_eq_some_iff.mp hd).1
    simpa using this
  refine ⟨⟨hH, hi⟩, fun x H' y => ?_⟩
  obtain ⟨y1, k, v, y2, y3⟩ := y
  subst y1 y3
  rw [List.map_map, List.getElem?_map, y2] at hd
  have e : kD k = d := by simpa using hd
  subst e
  refine ⟨F', Sub.refl _, sr, ?_⟩
  cases k <;> exact rfl
theorem keysAt_some {r : En} {i : Nat} {l : List D} (h : keysAt r i = some l) : ∃ ks vs, r[i]? = some (some (.t (.dct ks vs))) ∧ l = ks.map kD := by
  unfold keysAt at h
  split at h
  · rename_i ks vs q
    exact ⟨ks, vs, q, (Option.some.inj h).symm⟩
  · cases h
theorem zip_fst {κ α : Type} : ∀ {ks : List κ} {us : List α}, ks.length = us.length → (ks.zip us).map (·.1) = ks
  | [], _, _ => by simp
  | k :: ks, [], h => by simp at h
  | k :: ks, u :: us, h => by rw [List.zip_cons_cons, List.map_cons, zip_fst (by simpa using h)]
theorem cmp_fix {K : PySem.W.Frag} {mu : Bool} {tg : Tg} {c : Option Ex} {e : Ex} {l : List D} {J : It} {p1 : List Addr} {F1 G H1 : Hp} {r : En} {M1 : Ar} {σ : L2.St} {Q : VK} (it : ItF K ca l p1 F1 J) (s1 : SR K ca p1 F1 G M1 H1) (er1 : ER K ca p1 F1 r σ)
    (h1 : Tk K ca (RD K ca) W G p1 F1 ((cmpF (cmpBody C tg c e r) l [] M1).bind fun l M => mkL mu l M) Q) (D0 : Addr) (hD : H1 D0 = none) :
    ∃ Wv : Nat → Nat → Hp → Prop, (∃ m, Wv 0 m (upd H1 D0 (.lst []))) ∧ ∀ i m H, Wv i m H →
      (J.stop i H ∧ Q (.ref D0) H) ∨ (J.go i H ∧ ∃ Nx : Hp → Prop, (∀ H', Nx H' → ∃ m', m' < m ∧ Wv (i + 1) m' H') ∧ ∀ x H', J.yld i H x H' → TGo K ca tg x (wipe σ tg.slots) H' fun σ2 H2 => wipe σ2 tg.slots = wipe σ tg.slots ∧ TTo K ca W0 (evC C c) σ2 H2 fun b H3 =>
        if b = true then TEo K ca W0 (evE C e) σ2 H3 fun y H4 => ∃ acc, H4 D0 = some (.lst acc) ∧ acc.length < sizeLine ∧ Nx (upd H4 D0 (.lst (acc ++ [y]))) else Nx H3) := by
  obtain ⟨nG1, nG2, nG3⟩ := s1.ne hD
  have sG : ∀ o, Sub G (upd G D0 o) := fun o => sub_upd nG3
  refine ⟨fun i m H => ∃ p' F' M' acc accd, Pre p1 p' ∧ Sub F1 F' ∧ SR K ca p' F' (upd G D0 (.lst acc)) M' H ∧ RDs K ca p' F' accd acc ∧ i ≤ l.length ∧ m = l.length - i ∧ Tk K ca (RD K ca) W G p' F' ((cmpF (cmpBody C tg c e r) (l.drop i) accd M').bind fun l M => mkL mu l M) Q,
    ⟨l.length, p1, F1, M1, [], [], Pre.refl _, Sub.refl _, s1.addG hD, rfl, Nat.zero_le _, by simp, h1⟩, ?_⟩
  rintro i m H2 ⟨p', F', M', acc, accd, a2, b2, s2, ra, hi, rfl, h2⟩
  obtain ⟨stop, go⟩ := it i p' F' _ M' H2 a2 b2 s2
  by_cases hl : i < l.length
  · right
    obtain ⟨g1, g2⟩ := go l[i] (List.getElem?_eq_getElem hl)
    rw [List.drop_eq_getElem_cons hl] at h2
    refine ⟨g1, fun H => ∃ p' F' M' acc accd, Pre p1 p' ∧ Sub F1 F' ∧ SR K ca p' F' (upd G D0 (.lst acc)) M' H ∧ RDs K ca p' F' accd acc ∧ Tk K ca (RD K ca) W G p' F' ((cmpF (cmpBody C tg c e r) (l.drop (i + 1)) accd M').bind fun l M => mkL mu l M) Q,
      fun H' ⟨p3, F3, M3, acc3, accd3, z1, z2, z3, z4, z5⟩ => ⟨l.length - (i + 1), by omega, p3, F3, M3, acc3, accd3, z1, z2, z3, z4, hl, rfl, z5⟩, fun x H' y => ?_⟩
    obtain ⟨F3, c1, c2, c3⟩ := g2 x H' y
    have h3 : Tk K ca (RD K ca) W G p' F3 (((cmpBody C tg c e r l[i] M').bind fun o M => match o with
      | none => cmpF (cmpBody C tg c e r) (l.drop (i + 1)) accd M
      | some x => okIf (decide (accd.length < line)) (cmpF (cmpBody C tg c e r) (l.drop (i + 1)) (accd ++ [x]) M)).bind fun l M => mkL mu l M) Q := Tk.pre h2 (Pre.refl _) c1
    refine turn_step (sG _) c2 (er1.sub a2 (b2.trans c1)) c3 h3 (fun y H3 p4 F4 M4 yd x1 x2 x3 x4 x5 => ?_) (fun H3 p4 F4 M4 x1 x2 x3 x5 => ?_)
    · cases q : decide (accd.length < line) with
      | false => simp only [q] at x5; exact x5.elim
      | true =>
        simp only [q] at x5
        have lt := of_decide_eq_true q
        have ra4 := RDs.sub x1 (c1.trans x2) accd acc ra
        rw [ra4.length, line_eq] at lt
        refine ⟨acc, x3.gr _ _ upd_same, lt, p4, F4, M4, acc ++ [y], accd ++ [yd], a2.trans x1, b2.trans (c1.trans x2), x3.setG, ra4.app (RDs.one x4), x5⟩
    · exact ⟨p4, F4, M4, acc, accd, a2.trans x1, b2.trans (c1.trans x2), x3, RDs.sub x1 (c1.trans x2) accd acc ra, x5⟩
  · left
    have ei : i = l.length := by omega
    refine ⟨stop (by omega), ?_⟩
    rw [ei, List.drop_length] at h2
    have h3 : Tk K ca (RD K ca) W G p' F' (mkL mu accd M') Q := h2
    exact mkL_frame nG3 s2 ra h3
theorem PE.or {X : Cx} {e : Expr} {t t' : TE} (h : PE X e t) (h' : PE X e t') : PE X e (fun σ H Q => t σ H Q ∨ t' σ H Q) := ⟨fun pins s σ H Q I q => by
  rcases q with q | q
  · exact h.run pins s σ H Q I q
  · exact h'.run pins s σ H Q I q⟩
theorem compK_step {X : Cx} {mu : Bool} {tg : Tg} {i : Nat} {c : Option Ex} {e : Ex} {σ : L2.St} {H : Hp} {Q : VK} (h : TEo X.K ca W (evE C (.compK mu tg i c e)) σ H Q) :
    tLc (iKeys (tVar i)) (TGo X.K ca tg) (TTo X.K ca W0 (evC C c)) (TEo X.K ca W0 (evE C e)) tg.slots σ H Q ∨ tLockE (tLc (iKeys (tVar i)) (TGo X.K ca tg) (TTo X.K ca W0 (evC C c)) (TEo X.K ca W0 (evE C e)) tg.slots) σ H Q := by
  obtain ⟨p, F, G, r, M, sr, er, h⟩ := h
  unfold evE at h
  cases q : keysAt r i with
  | none => rw [q] at h; exact h.elim
  | some l =>
    rw [q] at h
    obtain ⟨ks, vs, q1, rfl⟩ := keysAt_some q
    obtain ⟨v, e1, a, us, e2, e3, e4, e5⟩ := er.2 i _ q1
    subst e2
    have hl : (ks.map kD) = (((ks.zip us).map (·.1)).map kD) := by rw [zip_fst e4]
    rw [hl] at h
    have h' : Tk X.K ca (RD X.K ca) W G p F (noExc ((cmpF (cmpBody C tg c e r) (((ks.zip us).map (·.1)).map kD) [] M).bind fun l M => mkL mu l M)) Q := h
    cases q2 : ((cmpF (cmpBody C tg c e r) (((ks.zip us).map (·.1)).map kD) [] M).bind fun l M => mkL mu l M) with
    | stuck => rw [q2] at h'; exact h'.elim
    | exc c fs M1 => rw [q2] at h'; exact h'.elim
    | ok d M1 =>
      rw [q2] at h'
      have hok : Tk X.K ca (RD X.K ca) W G p F (.ok d M1) Q := h'
      rcases e3 with e3 | ⟨od, e3⟩
      · right
        refine ⟨a, .dK (ks.zip us), sr.fr _ _ e3, trivial, fun od => ?_⟩
        have al := alike_upd (o' := .frz od (.dK (ks.zip us))) e3 (.inl rfl) (.inr ⟨od, rfl⟩)
        have sr2 := sr.alike e3 al
        refine ⟨.ref a, e1, a, od, rfl, .inl ⟨_, upd_same, ?_⟩⟩
        refine cmp_fix (C := C) (tg := tg) (c := c) (e := e) (W := W) (mu := mu) (G := G) (M1 := M) (r := r) (Q := fun v H' => H' a = some (HO.frz od (HO.dK (ks.zip us))) ∧ Q v (upd H' a (HO.dK (ks.zip us)))) (itF_keys upd_same) sr2 (er.alike al) ?_
        rw [q2]
        intro p3 F3 H3 o z1 z2 z3 z4
        have hF3 : F3 a = some (.frz od (.dK (ks.zip us))) := z2 _ _ upd_same
        have al3 := alike_upd (o' := .dK (ks.zip us)) hF3 (.inr ⟨od, rfl⟩) (.inl rfl)
        have sr4 := z3.alike hF3 al3
        have sub4 : Sub F (upd F3 a (.dK (ks.zip us))) := fun c u e => by
          by_cases hc : c = a
          · subst hc
            rw [e3] at e
            cases e
            exact upd_same
          · rw [upd_ne hc]
            exact z2 c u (by rw [upd_ne hc]; exact e)
        exact ⟨z3.fr _ _ hF3, hok p3 _ _ o z1 sub4 sr4 (RD.alike al3 d o z4)⟩
      · left
        refine ⟨.ref a, e1, a, od, rfl, .inl ⟨_, sr.fr _ _ e3, ?_⟩⟩
        refine cmp_fix (C := C) (tg := tg) (c := c) (e := e) (W := W) (mu := mu) (G := G) (M1 := M) (r := r) (Q := Q) (itF_keys e3) sr er ?_
        rw [q2]
        exact hok
end
end Rw
end
section
set_option Elab.async false
set_option linter.all false
set_option maxRecDepth 100000
namespace Rw
open PySem PySem.Spec PyProof.Rows L2
section
variable {P : Pg} {fns : Nat → Option Fn} {ca fa : Nat → Addr} {fdt : Nat → FuncData} {C : Cal} {k : Nat} {X : Cx} {N : List Str} {sc : Scope} {W : XK}
def trsOf (ca : Nat → Addr) (C : Cal) (X : Cx) (W : XK) : List Str → List Ex → List (TE × TE)
  | s :: ks, e :: es => (tC (.str s), TEo X.K ca W (evE C e)) :: trsOf ca C X W ks es
  | _, _ => []
def pairsV (ks : List Str) (vs : List V) : List (Key × V) := (ks.zip vs).map fun q => (Sum.inr q.1, q.2)
theorem pairs_step : ∀ (ks : List Str) (es : List Ex) (σ : L2.St) (H : Hp) (Q : List (V × V) → Hp → Prop), ks.length = es.length →
    TAo X.K ca W (evEs C es) σ H (fun vs H1 => Q ((pairsV ks vs).map fun kv => (kV kv.1, kv.2)) H1) → tPairs (trsOf ca C X W ks es) σ H Q
  | [], [], σ, H, Q, _, h => by
    obtain ⟨p, F, G, r, M, sr, er, h⟩ := h
    exact Tk.ok (v := ([] : List V)) h sr (show RDs X.K ca p F [] [] from rfl)
  | s :: ks, e :: es, σ, H, Q, hl, h => by
    obtain ⟨p, F, G, r, M, sr, er, h⟩ := h
    show TEo X.K ca W (evE C e) σ H fun y H2 => tPairs (trsOf ca C X W ks es) σ H2 fun ps H3 => Q ((.str s, y) :: ps) H3
    refine ⟨p, F, G, r, M, sr, er, (Tk.bind (rel := RD X.K ca) h).mono fun v H1 ⟨p1, F1, x, M1, a1, b1, s1, r1, _, h1⟩ => ?_⟩
    refine pairs_step ks es σ H1 _ (by simpa using hl) ⟨p1, F1, G, r, M1, s1, er.sub a1 b1, (Tk.bind (rel := RDs X.K ca) h1).mono fun vs H2 ⟨p2, F2, xs, M2, a2, b2, s2, r2, _, h2⟩ => ?_⟩
    exact Tk.ok (v := v :: vs) h2 s2 (show RDs X.K ca p2 F2 (x :: xs) (v :: vs) from ⟨v, vs, rfl, RD.sub a2 b2 x v r1, r2⟩)
  | [], _ :: _, _, _, _, hl, _ => by cases hl
  | _ :: _, [], _, _, _, hl, _ => by cases hl
theorem putK_new {kvs : List (Key × V)} {k : Key} {v : V} (h : k ∉ kvs.map (·.1)) : putK kvs k v = kvs ++ [(k, v)] := by
  unfold putK
  rw [if_neg]
  intro z
  obtain ⟨q, h1, h2⟩ := List.any_eq_true.mp z
  exact h (List.mem_map.mpr ⟨q, h1, of_decide_eq_true h2⟩)
theorem mergeK_new : ∀ (kvs acc : List (Key × V)), (acc.map (·.1) ++ kvs.map (·.1)).Nodup → mergeK acc kvs = acc ++ kvs
  | [], acc, _ => by unfold mergeK; simp
  | (q1, q2) :: kvs, acc, h => by
    have e : mergeK acc ((q1, q2) :: kvs) = mergeK (putK acc q1 q2) kvs := rfl
    have hq : q1 ∉ acc.map (·.1) := fun z => by
      have := List.nodup_append.mp h
      exact this.2.2 q1 z q1 (by simp) rfl
    rw [e, putK_new hq, mergeK_new kvs (acc ++ [(q1, q2)]) (by simpa using h)]
    simp
theorem pairs_find {p : List Addr} {F : Hp} {x : Str} {d : D} : ∀ {ks : List Str} {ds : List D} {vs : List V}, RDs X.K ca p F ds vs → (ks.zip ds).lookup x = some d → ∃ v, valV (pairsV ks vs) (Sum.inr x) = some v ∧ RD X.K ca p F d v
  | [], _, _, _, h => by simp at h
  | _ :: _, [], _, _, h => by simp at h
  | s :: ks, e :: ds, _, ⟨v, w, e0, h1, h2⟩, h => by
    subst e0
    by_cases hq : s = x
    · subst hq
      have l1 : List.lookup s ((s :: ks).zip (e :: ds)) = some e := by simp [List.lookup]
      rw [l1] at h
      cases h
      exact ⟨v, valV_pos (p := (Sum.inr s, v)) rfl, h1⟩
    · have hb : (x == s) = false := beq_eq_false_iff_ne.mpr (Ne.symm hq)
      have l1 : List.lookup x ((s :: ks).zip (e :: ds)) = List.lookup x (ks.zip ds) := by simp only [List.zip_cons_cons, List.lookup, hb]
      rw [l1] at h
      obtain ⟨u, u1, u2⟩ := pairs_find h2 h
      exact ⟨u, by rw [show pairsV (s :: ks) (v :: w) = (Sum.inr s, v) :: pairsV ks w from rfl, valV_neg (fun z => hq (Sum.inr.inj z))]; exact u1, u2⟩
theorem s_pick (g : Good P fns ca fa fdt C k X N sc W) {ks : List Str} {es : List Ex} {i : Ex} {keys : List (Option Expr)} {vals : List Expr} {i' : Expr} {pos pd : Pos} (hk : ks.Nodup) (hl : ks.length = es.length) (hl2 : es.length ≤ 15)
    (hp : PPs X pd keys vals (trsOf ca C X W ks es)) (hall : keys.all (·.isSome) = true) (hkl : keys.length = vals.length) (hk0 : keys ≠ []) (hk15 : keys.length ≤ 15) (hs : noSlice i' = true) (hi : SE ca C X W i i') :
    SE ca C X W (.pick ks es i) (.Subscript (.Dict keys vals pd) i' pos) := by
  refine PE.imp (pe_dget (by have := g.hu; omega) (pe_disp hp hall hkl hk0 hk15) hi (noSlice_ok hs)) fun σ H Q h => ?_
  obtain ⟨p, F, G, r, M, sr, er, h⟩ := h
  intro p0 hp0
  obtain ⟨n1, n2, n3⟩ := sr.ne hp0
  have s0 := sr.addG (o := .dK []) hp0
  refine pairs_step ks es σ _ _ hl ⟨p, F, upd G p0 (.dK []), r, M, s0, er, (Tk.bindG (rel := RDs X.K ca) (sub_upd n3) h).mono fun vs H1 ⟨p1, F1, ds, M1, a1, b1, s1, r1, q1, h1⟩ => ?_⟩
  have len : (pairsV ks vs).length ≤ 15 := by
    unfold pairsV
    rw [List.length_map, List.length_zip]
    omega
  refine ⟨s1.gr _ _ upd_same, pairsV ks vs, rfl, len, ?_⟩
  have l0 : vs.length = ks.length := by rw [← r1.length, call_step.evEs_len q1, hl]
  have ndk : ((pairsV ks vs).map (·.1)).Nodup := by
    unfold pairsV
    rw [List.map_map]
    have e : (ks.zip vs).map ((fun (q : Key × V) => q.1) ∘ fun (q : Str × V) => ((Sum.inr q.1 : Key), q.2)) = ks.map Sum.inr := by
      have : (ks.zip vs).map (·.1) = ks := by rw [List.map_fst_zip]; omega
      conv => rhs; rw [← this]
      rw [List.map_map]
      rfl
    rw [e]
    exact List.Pairwise.map _ (fun a b h z => h (Sum.inr.inj z)) hk
  rw [mergeK_new (pairsV ks vs) [] (by simpa using ndk), List.nil_append]
  have s2 := s1.setG (o' := .dK (pairsV ks vs))
  refine ⟨p1, F1, upd G p0 (.dK (pairsV ks vs)), r, M1, s2, er.sub a1 b1, (Tk.bindG (rel := RD X.K ca) (sub_upd n3) h1).mono fun y H3 ⟨p3, F3, yd, M3, a3, b3, s3, r3, _, h3⟩ => ?_⟩
  have hx : ∃ x, yd = .t (.str x) := by
    unfold pickV at h3
    split at h3
    · exact ⟨_, rfl⟩
    · exact h3.elim
  obtain ⟨x, rfl⟩ := hx
  unfold pickV at h3
  cases q : (ks.zip ds).lookup x with
  | none => simp only [q] at h3; exact h3.elim
  | some d =>
    simp only [q] at h3
    obtain ⟨v, u1, u2⟩ := pairs_find (RDs.sub a3 b3 ds vs r1) q
    have ey : y = kV (Sum.inr x) := r3
    subst ey
    refine ⟨p0, v, rfl, ?_, Tk.ok h3 (s3.lessG (sub_upd n3)) u2⟩
    rw [← u1]
    exact DGet.k (s3.gr _ _ upd_same)
theorem pairs_none {x : Str} : ∀ {ks : List Str} {ds : List D} {vs : List V}, ds.length = vs.length → (ks.zip ds).lookup x = none → valV (pairsV ks vs) (Sum.inr x) = none
  | [], ds, vs, hl, _ => by simp [pairsV, valV]
  | k :: ks, [], vs, hl, _ => by
    cases vs with
    | nil => simp [pairsV, valV]
    | cons _ _ => simp at hl
  | k :: ks, d :: ds, [], hl, h => by simp at hl
  | k :: ks, d :: ds, v :: vs, hl, h => by
    rw [List.zip_cons_cons, List.lookup_cons] at h
    split at h
    · cases h
    · rename_i q
      have hn : ¬ (Sum.inr k : Key) = Sum.inr x := fun z => by
        have := Sum.inr.inj z
        subst this
        simp at q
      show valV ((Sum.inr k, v) :: pairsV ks vs) (Sum.inr x) = none
      rw [valV_neg (p := ((Sum.inr k : Key), v)) hn]
      exact pairs_none (by simpa using hl) h
theorem s_pickG (g : Good P fns ca fa fdt C k X N sc W) {ks : List Str} {es : List Ex} {i b : Ex} {keys : List (Option Expr)} {vals : List Expr} {i' b' : Expr} {ap cp pd : Pos} (hk : ks.Nodup) (hl : ks.length = es.length) (hl2 : es.length ≤ 15)
    (hp : PPs X pd keys vals (trsOf ca C X W ks es)) (hall : keys.all (·.isSome) = true) (hkl : keys.length = vals.length) (hk0 : keys ≠ []) (hk15 : keys.length ≤ 15) (hm : M2 X (.Dict keys vals pd) "get" ap i' b' cp) (hi : SE ca C X W i i') (hb : SE ca C X W b b') :
    SE ca C X W (.pickG ks es i b) (.Call (.Attribute (.Dict keys vals pd) "get" ap) [i', b'] [] cp) := by
  refine PE.imp (pe_dget2 (by have := g.hu; omega) (pe_disp hp hall hkl hk0 hk15) hi hb hm) fun σ H Q h => ?_
  obtain ⟨p, F, G, r, M, sr, er, h⟩ := h
  intro p0 hp0
  obtain ⟨n1, n2, n3⟩ := sr.ne hp0
  have s0 := sr.addG (o := .dK []) hp0
  refine pairs_step ks es σ _ _ hl ⟨p, F, upd G p0 (.dK []), r, M, s0, er, (Tk.bindG (rel := RDs X.K ca) (sub_upd n3) h).mono fun vs H1 ⟨p1, F1, ds, M1, a1, b1, s1, r1, q1, h1⟩ => ?_⟩
  have len : (pairsV ks vs).length ≤ 15 := by
    unfold pairsV
    rw [List.length_map, List.length_zip]
    omega
  refine ⟨s1.gr _ _ upd_same, pairsV ks vs, rfl, len, ?_⟩
  have l0 : vs.length = ks.length := by rw [← r1.length, call_step.evEs_len q1, hl]
  have ndk : ((pairsV ks vs).map (·.1)).Nodup := by
    unfold pairsV
    rw [List.map_map]
    have e : (ks.zip vs).map ((fun (q : Key × V) => q.1) ∘ fun (q : Str × V) => ((Sum.inr q.1 : Key), q.2)) = ks.map Sum.inr := by
      have : (ks.zip vs).map (·.1) = ks := by rw [List.map_fst_zip]; omega
      conv => rhs; rw [← this]
      rw [List.map_map]
      rfl
    rw [e]
    exact List.Pairwise.map _ (fun a b h z => h (Sum.inr.inj z)) hk
  rw [mergeK_new (pairsV ks vs) [] (by simpa using ndk), List.nil_append]
  have s2 := s1.setG (o' := .dK (pairsV ks vs))
  refine ⟨p0, rfl, .inl ⟨_, .inl upd_same⟩, ?_⟩
  refine ⟨p1, F1, upd G p0 (.dK (pairsV ks vs)), r, M1, s2, er.sub a1 b1, (Tk.bindG (rel := RD X.K ca) (sub_upd n3) h1).mono fun y H3 ⟨p3, F3, yd, M3, a3, b3, s3, r3, _, h3⟩ => ?_⟩
  refine ⟨p3, F3, upd G p0 (.dK (pairsV ks vs)), r, M3, s3, (er.sub a1 b1).sub a3 b3, (Tk.bindG (rel := RD X.K ca) (sub_upd n3) h3).mono fun u H4 ⟨p4, F4, zd, M4, a4, b4, s4, r4, _, h4⟩ => ?_⟩
  have hx : ∃ x, keyD yd = some (.inr x) := by
    unfold pickGV at h4
    split at h4
    · rename_i x q; exact ⟨x, q⟩
    · exact h4.elim
  obtain ⟨x, qx⟩ := hx
  unfold pickGV at h4
  simp only [qx] at h4
  have ey : y = kV (Sum.inr x) := keyD_ok r3 qx
  subst ey
  refine ⟨valV (pairsV ks vs) (Sum.inr x), DGet.k (s4.gr _ _ upd_same), ?_⟩
  cases q : (ks.zip ds).lookup x with
  | none =>
    rw [q] at h4
    rw [pairs_none r1.length q]
    exact Tk.ok (show Tk X.K ca (RD X.K ca) W G p4 F4 (.ok zd M4) Q from h4) (s4.lessG (sub_upd n3)) r4
  | some d =>
    rw [q] at h4
    obtain ⟨v, u1, u2⟩ := pairs_find (RDs.sub (a3.trans a4) (b3.trans b4) ds vs r1) q
    rw [u1]
    exact Tk.ok (show Tk X.K ca (RD X.K ca) W G p4 F4 (.ok d M4) Q from h4) (s4.lessG (sub_upd n3)) u2
theorem Good.blk (g : Good P fns ca fa fdt C k X N sc W) (s : Shared) (H : Hp) (scope : Scope) (C' : Addr) (cl : List (Str × Addr)) (fp : List Addr) :
    Good P fns ca fa fdt C k (X.blk s H scope (compEnvC scope cl C' X.env) fp) N (relS scope sc) W0 :=
  ⟨g.hN, g.nd, by show relS scope X.env.scope = _; rw [g.hsc], g.calm, g.room, g.fx, g.fns, fun u s' ⟨a, B, sI, pins, σ, H, cls, d, e, I, nb, up, sky, na, os, ag, w⟩ => w⟩
def blkFb (scope : Scope) (x : Str) : Bool := match scope.names.lookup x with
  | some .cell => true
  | _ => false
theorem blkFb_ok {scope : Scope} {x : Str} (h : blkFb scope x = true) : (scope.names.lookup x == some .cell) = true := by
  unfold blkFb at h
  split at h
  · rename_i e; rw [e]; rfl
  · cases h
def noSet : Expr → Bool
  | .Set .. => false
  | _ => true
theorem noSet_ok {e : Expr} (h : noSet e = true) (env : Env) : ∀ x, foldedSetIterable e env x = pure x := by
  intro x
  unfold foldedSetIterable
  cases e <;> first | rfl | cases h
def ownOf (N : List Str) (vs : List Nat) : List (Str × Nat) := vs.filterMap fun i => (N[i]?).map fun x => (x, i)
theorem ownOf_map {N : List Str} : ∀ {vs : List Nat}, vs.all (fun i => decide (i < N.length)) = true → (ownOf N vs).map (·.2) = vs
  | [], _ => rfl
  | v :: vs, h => by
    simp only [List.all_cons, Bool.and_eq_true, decide_eq_true_eq] at h
    unfold ownOf
    rw [List.filterMap_cons, List.getElem?_eq_getElem h.1]
    show v :: (ownOf N vs).map (·.2) = v :: vs
    rw [ownOf_map h.2]
end
mutual
def beqT : T → T → Bool
  | .non, y => (match y with
    | .non => true
    | _ => false)
  | .bl a, y => (match y with
    | .bl b => a == b
    | _ => false)
  | .int a, y => (match y with
    | .int b => decide (a = b)
    | _ => false)
  | .str a, y => (match y with
    | .str b => decide (a = b)
    | _ => false)
  | .tup a, y => (match y with
    | .tup b => beqTs a b
    | _ => false)
  | .lst a, y => (match y with
    | .lst b => beqTs a b
    | _ => false)
  | .scr _, _ => false
  | .dct _ _, _ => false
  | .obj _ _ _, _ => false
def beqTs : List T → List T → Bool
  | [], y => (match y with
    | [] => true
    | _ => false)
  | a :: l, y => (match y with
    | b :: m => beqT a b && beqTs l m
    | _ => false)
end
mutual
theorem beqT_ok : ∀ (x y : T), beqT x y = true → x = y
  | .non, y, h => by unfold beqT at h; split at h; · rfl
                     · cases h
  | .bl a, y, h => by
    unfold beqT at h
    split at h
    · rw [eq_of_beq h]
    · cases h
  | .int a, y, h => by
    unfold beqT at h
    split at h
    · rw [of_decide_eq_true h]
    · cases h
  | .str a, y, h => by
    unfold beqT at h
    split at h
    · rw [of_decide_eq_true h]
    · cases h
  | .tup a, y, h => by
    unfold beqT at h
    split at h
    · rw [beqTs_ok a _ h]
    · cases h
  | .lst a, y, h => by
    unfold beqT at h
    split at h
    · rw [beqTs_ok a _ h]
    · cases h
  | .scr _, y, h => by unfold beqT at h; cases h
  | .dct _ _, y, h => by unfold beqT at h; cases h
  | .obj _ _ _, y, h => by unfold beqT at h; cases h
theorem beqTs_ok : ∀ (x y : List T), beqTs x y = true → x = y
  | [], y, h => by
    unfold beqTs at h
    split at h
    · rfl
    · cases h
  | a :: l, y, h => by
    unfold beqTs at h
    split at h
    · obtain ⟨h1, h2⟩ := Bool.and_eq_true_iff.mp h
      rw [beqT_ok a _ h1, beqTs_ok l _ h2]
    · cases h
end
def beqTab : List (Str × T) → List (Str × T) → Bool
  | [], y => (match y with
    | [] => true
    | _ => false)
  | a :: l, y => (match y with
    | b :: m => decide (a.1 = b.1) && beqT a.2 b.2 && beqTab l m
    | _ => false)
theorem beqTab_ok : ∀ (x y : List (Str × T)), beqTab x y = true → x = y
  | [], y, h => by
    unfold beqTab at h
    split at h
    · rfl
    · cases h
  | a :: l, y, h => by
    unfold beqTab at h
    split at h
    · rename_i b m
      obtain ⟨h1, h2⟩ := Bool.and_eq_true_iff.mp h
      obtain ⟨h3, h4⟩ := Bool.and_eq_true_iff.mp h1
      have e1 := of_decide_eq_true h3
      have e2 := beqT_ok _ _ h4
      obtain ⟨a1, a2⟩ := a
      obtain ⟨b1, b2⟩ := b
      cases e1
      cases e2
      rw [beqTab_ok l _ h2]
    · cases h
def hasCon (L : List (Str × T)) (x : Str) (t : T) : Bool := L.any fun q => decide (q.1 = x) && beqT q.2 t
theorem hasCon_ok {L : List (Str × T)} {x : Str} {t : T} (h : hasCon L x t = true) : (x, t) ∈ L := by
  obtain ⟨q, h1, h2⟩ := List.any_eq_true.mp h
  obtain ⟨h3, h4⟩ := Bool.and_eq_true_iff.mp h2
  have e1 := of_decide_eq_true h3
  have e2 := beqT_ok _ _ h4
  obtain ⟨a1, a2⟩ := q
  cases e1
  cases e2
  exact h1
def hasTab (L : List (Str × List (Str × T))) (x : Str) (l : List (Str × T)) : Bool := L.any fun q => decide (q.1 = x) && beqTab q.2 l
theorem hasTab_ok {L : List (Str × List (Str × T))} {x : Str} {l : List (Str × T)} (h : hasTab L x l = true) : (x, l) ∈ L := by
  obtain ⟨q, h1, h2⟩ := List.any_eq_true.mp h
  obtain ⟨h3, h4⟩ := Bool.and_eq_true_iff.mp h2
  have e1 := of_decide_eq_true h3
  have e2 := beqTab_ok _ _ h4
  obtain ⟨a1, a2⟩ := q
  cases e1
  cases e2
  exact h1
def noIf : Expr → Bool
  | .IfExp .. => false
  | _ => true
/-- a built-in's name and how many arguments; isinstance: the classes -/
def biB (sc : Scope) (f : BiK) (x : Str) (es : List Expr) : Bool := match f, es with
  | .len, [_] => decide (x = "len")
  | .int, [_] => decide (x = "int")
  | .list _, [_] => decide (x = "list")
  | .tuple, [_] => decide (x = "tuple")
  | .min2, [_, _] => decide (x = "min")
  | .max2, [_, _] => decide (x = "max")
  | .str, [_] => decide (x = "str")
  | .sum, [_] => decide (x = "sum")
  | .minP, [_] => decide (x = "min")
  | .sortD, [_] => decide (x = "sorted")
  | .dictP _, [_] => decide (x = "dict")
  | .isStr, [_, .Name t _] => decide (x = "isinstance") && decide (t = "str") && glB sc t
  | .isInt, [_, .Name t _] => decide (x = "isinstance") && decide (t = "int") && glB sc t
  | .isBool, [_, .Name t _] => decide (x = "isinstance") && decide (t = "bool") && glB sc t
  | .isList, [_, .Name t _] => decide (x = "isinstance") && decide (t = "list") && glB sc t
  | .isSeq, [_, .Tuple [.Name t _, .Name u _] _ _] => decide (x = "isinstance") && decide (t = "tuple") && decide (u = "list") && glB sc t && glB sc u
  | _, _ => false
def biArgs (f : BiK) (es : List Expr) : List Expr := match f with
  | .isInt => es.take 1
  | .isBool => es.take 1
  | .isList => es.take 1
  | .isSeq => es.take 1
  | .isStr => es.take 1
  | _ => es
def meB (m : MeK) (x : Str) (es : List Expr) : Bool := match m, es with
  | .append, [_] => decide (x = "append")
  | .extend, [_] => decide (x = "extend")
  | .pop, [] => decide (x = "pop")
  | _, _ => false
def chkKs : List Str → List (Option Expr) → Bool
  | [], [] => true
  | k :: ks, some (.Constant (.str x) _ _) :: r => decide (x = k) && chkKs ks r
  | _, _ => false
mutual
def chkE (P : Pg) (fns : Nat → Option Fn) (N : List Str) (sc : Scope) : Ex → Expr → Bool
  | .var i, e0 => (match e0 with
    | .Name x _ => decide (N[i]? = some x) && visB sc x && !(x == ("__debug__" : Str)) && !(x == ("__classdict__" : Str))
    | _ => false)
  | .con t, e0 => (match e0 with
    | .Constant c _ _ => conB t c
    | _ => false)
  | .glo t, e0 => (match e0 with
    | .Name x _ => hasCon P.consts x t && glB sc x
    | _ => false)
  | .bad, _ => true
  | .bin o _ a b, e0 => (match e0 with
    | .BinOp a' op b' _ => binB o op && chkE P fns N sc a a' && chkE P fns N sc b b'
    | _ => false)
  | .neg a, e0 => (match e0 with
    | .UnaryOp .USub a' _ => chkE P fns N sc a a'
    | _ => false)
  | .cmp o a b, e0 => (match e0 with
    | .Compare a' [op] [b'] _ => cmpB o op && !behindInMarks op b' && chkE P fns N sc a a' && chkE P fns N sc b b'
    | _ => false)
  | .isN yes a, e0 => (match e0 with
    | .Compare a' [op] [.Constant .none _ _] _ => (match yes, op with
    | true, .Is => true
    | false, .IsNot => true
    | _, _ => false) && chkE P fns N sc a a'
    | _ => false)
  | .chain o1 o2 a b c, e0 => (match e0 with
    | .Compare a' [p1, p2] [b', c'] _ => cmpB o1 p1 && cmpB o2 p2 && !lastMarks [p1, p2] [b', c'] && chkE P fns N sc a a' && chkE P fns N sc b b' && chkE P fns N sc c c'
    | _ => false)
  | .and es, e0 => (match e0 with
    | .BoolOp .And es' _ => chkEs P fns N sc es es' && es'.all noIf && !es.isEmpty
    | _ => false)
  | .or es, e0 => (match e0 with
    | .BoolOp .Or es' _ => chkEs P fns N sc es es' && es'.all noIf && !es.isEmpty
    | _ => false)
  | .not a, e0 => (match e0 with
    | .UnaryOp .Not a' _ => noIf a' && chkE P fns N sc a a'
    | _ => false)
  | .ife c a b, e0 => (match e0 with
    | .IfExp c' a' b' _ => noIf c' && chkE P fns N sc c c' && chkE P fns N sc a a' && chkE P fns N sc b b'
    | _ => false)
  | .list _ es, e0 => (match e0 with
    | .List es' _ => chkEs P fns N sc es es' && es'.all noStar
    | _ => false)
  | .tuple es, e0 => (match e0 with
    | .Tuple es' _ _ => chkEs P fns N sc es es' && es'.all noStar
    | _ => false)
  | .idx a b, e0 => (match e0 with
    | .Subscript a' b' _ => noSlice b' && chkE P fns N sc a a' && chkE P fns N sc b b'
    | _ => false)
  | .slc _ a lo hi, e0 => (match e0 with
    | .Subscript a' (.Slice lo' hi' none _) _ => chkE P fns N sc a a' && chkO P fns N sc lo lo' && chkO P fns N sc hi hi'
    | _ => false)
  | .bi f es, e0 => (match e0 with
    | .Call (.Name x _) es' [] _ => glB sc x && biB sc f x es' && es'.all noStar && chkEs P fns N sc es (biArgs f es')
    | _ => false)
  | .me m o es, e0 => (match e0 with
    | .Call (.Attribute o' x ap) es' [] cp => noSuper o' && (ap.endLine == cp.line) && es'.all noStar && chkE P fns N sc o o' && meB m x es' && chkEs P fns N sc es es'
    | _ => false)
  | .call _ f es, e0 => (match e0 with
    | .Call (.Name x _) es' [] _ => glB sc x && decide ((f, x) ∈ P.gname) && es'.all noStar && (match fns f with
    | some fn => decide (es.length = fn.np)
    | none => false) && chkEs P fns N sc es es'
    | _ => false)
  | .meth c m f o es, e0 => (match e0 with
    | .Call (.Attribute o' x ap) es' [] cp => decide (x = m) && decide ((c, m, f) ∈ P.meths) && noSuper o' && (ap.endLine == cp.line) && es'.all noStar && decide (es'.length < 30) && (match fns f with
    | some fn => decide (es.length + 1 = fn.np)
    | none => false) && chkE P fns N sc o o' && chkEs P fns N sc es es'
    | _ => false)
  | .make c f es, e0 => (match e0 with
    | .Call (.Name x _) es' [] _ => glB sc x && decide ((c, x, f) ∈ P.makes) && es'.all noStar && (match fns f with
    | some fn => decide (es.length + 1 = fn.np)
    | none => false) && chkEs P fns N sc es es'
    | _ => false)
  | .makeF c f es, e0 => (match e0 with
    | .Call (.Name x _) es' [] _ => !es.isEmpty && glB sc x && decide ((c, x, f) ∈ P.makes) && es'.all noStar && (match fns f with
    | some fn => decide (es.length + 1 = fn.np)
    | none => false) && chkEs P fns N sc es es'
    | _ => false)
  | .attr c o f, e0 => (match e0 with
    | .Attribute o' x _ => decide (x = f) && decide ((c, f) ∈ P.flds) && noSuper o' && chkE P fns N sc o o'
    | _ => false)
  | .pick ks es i, e0 => (match e0 with
    | .Subscript (.Dict keys vals _) i' _ => noSlice i' && decide ks.Nodup && decide (ks.length = es.length) && decide (es.length ≤ 15) && decide (ks ≠ []) && chkKs ks keys && chkEs P fns N sc es vals && chkE P fns N sc i i'
    | _ => false)
  | .tabIn yes l a, e0 => (match e0 with
    | .Compare a' [op] [.Name x _] _ => hasTab P.tabs x l && glB sc x && (match yes, op with
    | true, .In => true
    | false, .NotIn => true
    | _, _ => false) && chkE P fns N sc a a'
    | _ => false)
  | .tabGet l a, e0 => (match e0 with
    | .Subscript (.Name x _) a' _ => hasTab P.tabs x l && glB sc x && noSlice a' && chkE P fns N sc a a'
    | _ => false)
  | .dict _, e0 => (match e0 with
    | .Dict [] [] _ => true
    | _ => false)
  | .get1 d a, e0 => (match e0 with
    | .Call (.Attribute d' x ap) [a'] [] cp => decide (x = "get") && noSuper d' && (ap.endLine == cp.line) && noStar a' && chkE P fns N sc d d' && chkE P fns N sc a a'
    | _ => false)
  | .get2 d a b, e0 => (match e0 with
    | .Call (.Attribute d' x ap) [a', b'] [] cp => decide (x = "get") && noSuper d' && (ap.endLine == cp.line) && noStar a' && noStar b' && chkE P fns N sc d d' && chkE P fns N sc a a' && chkE P fns N sc b b'
    | _ => false)
  | .pickG ks es i b, e0 => (match e0 with
    | .Call (.Attribute (.Dict keys vals _) x ap) [i', b'] [] cp => decide (x = "get") && (ap.endLine == cp.line) && noStar i' && noStar b' && decide ks.Nodup && decide (ks.length = es.length) && decide (es.length ≤ 15) && decide (ks ≠ []) && chkKs ks keys && chkEs P fns N sc es vals && chkE P fns N sc i i' && chkE P fns N sc b b'
    | _ => false)
  | .split a b, e0 => (match e0 with
    | .Call (.Attribute a' x ap) [b'] [] cp => decide (x = "split") && noSuper a' && (ap.endLine == cp.line) && noStar b' && chkE P fns N sc a a' && chkE P fns N sc b b'
    | _ => false)
  | .join a b, e0 => (match e0 with
    | .Call (.Attribute a' x ap) [b'] [] cp => decide (x = "join") && noSuper a' && (ap.endLine == cp.line) && noStar b' && chkE P fns N sc a a' && chkE P fns N sc b b'
    | _ => false)
  | .comp _ tg s c e, e0 => (match e0 with
    | .ListComp e' [⟨tg', it, ifs, 0⟩] scope _ => noSet it && tg.slots.all (fun i => decide (i < N.length)) && blkC N sc scope (ownOf N tg.slots) && chkTg N (relS scope sc) (blkFb scope) tg tg' && chkSr P fns N sc s tg' it && chkC P fns N (relS scope sc) c ifs && chkE P fns N (relS scope sc) e e'
    | _ => false)
  | .lenSet a, e0 => (match e0 with
    | .Call (.Name x _) [.Call (.Name y _) [a'] [] _] [] _ => decide (x = "len") && decide (y = "set") && glB sc "len" && glB sc "set" && noStar a' && chkE P fns N sc a a'
    | _ => false)
  | .setSort a, e0 => (match e0 with
    | .Call (.Name x _) [.Call (.Name y _) [a'] [] _] [] _ => decide (x = "sorted") && decide (y = "set") && glB sc "sorted" && glB sc "set" && noStar a' && chkE P fns N sc a a'
    | _ => false)
  | .listZip es, e0 => (match e0 with
    | .Call (.Name x _) [.Call (.Name y _) [a', b'] [] _] [] _ => decide (x = "list") && decide (y = "zip") && glB sc "list" && glB sc "zip" && ([a', b'] : List Expr).all noStar && chkEs P fns N sc es [a', b']
    | _ => false)
  | .listRng a b, e0 => (match e0 with
    | .Call (.Name x _) [.Call (.Name y _) [a', b'] [] _] [] _ => decide (x = "list") && decide (y = "range") && glB sc "list" && glB sc "range" && noStar a' && noStar b' && chkE P fns N sc a a' && chkE P fns N sc b b'
    | _ => false)
  | .cntS a b, e0 => (match e0 with
    | .Call (.Attribute a' x ap) [b'] [] cp => decide (x = "count") && noSuper a' && (ap.endLine == cp.line) && noStar b' && chkE P fns N sc a a' && chkE P fns N sc b b'
    | _ => false)
  | .cntL a b, e0 => (match e0 with
    | .Call (.Attribute a' x ap) [b'] [] cp => decide (x = "count") && noSuper a' && (ap.endLine == cp.line) && noStar b' && chkE P fns N sc a a' && chkE P fns N sc b b'
    | _ => false)
  | .ixL a b, e0 => (match e0 with
    | .Call (.Attribute a' x ap) [b'] [] cp => decide (x = "index") && noSuper a' && (ap.endLine == cp.line) && noStar b' && chkE P fns N sc a a' && chkE P fns N sc b b'
    | _ => false)
  | .srtI a, e0 => (match e0 with
    | .Call (.Name x _) [.Call (.Attribute a' y ap) [] [] cp] [] _ => decide (x = "sorted") && decide (y = "items") && glB sc "sorted" && noSuper a' && (ap.endLine == cp.line) && chkE P fns N sc a a'
    | _ => false)
  | .repT a b, e0 => (match e0 with
    | .BinOp a' .Mult b' _ => chkE P fns N sc a a' && chkE P fns N sc b b'
    | _ => false)
  | .compK _ tg i c e, e0 => (match e0 with
    | .ListComp e' [⟨tg', .Name x _, ifs, 0⟩] scope _ => decide (N[i]? = some x) && visB sc x && !(x == ("__debug__" : Str)) && !(x == ("__classdict__" : Str)) && tg.slots.all (fun i => decide (i < N.length)) && blkC N sc scope (ownOf N tg.slots) && chkTg N (relS scope sc) (blkFb scope) tg tg' && chkC P fns N (relS scope sc) c ifs && chkE P fns N (relS scope sc) e e'
    | _ => false)
def chkEs (P : Pg) (fns : Nat → Option Fn) (N : List Str) (sc : Scope) : List Ex → List Expr → Bool
  | [], [] => true
  | a :: es, a' :: es' => chkE P fns N sc a a' && chkEs P fns N sc es es'
  | _, _ => false
def chkO (P : Pg) (fns : Nat → Option Fn) (N : List Str) (sc : Scope) : Option Ex → Option Expr → Bool
  | none, none => true
  | some a, some a' => chkE P fns N sc a a'
  | _, _ => false
def chkC (P : Pg) (fns : Nat → Option Fn) (N : List Str) (sc : Scope) : Option Ex → List Expr → Bool
  | none, [] => true
  | some a, [a'] => noIf a' && chkE P fns N sc a a'
  | _, _ => false
def chkSr (P : Pg) (fns : Nat → Option Fn) (N : List Str) (sc : Scope) : Sr → Expr → Expr → Bool
  | .seq a, _, e0 => chkE P fns N sc a e0
  | .rng es, _, e0 => (match e0 with
    | .Call (.Name x _) es' [] _ => decide (x = "range") && glB sc x && es'.all noStar && chkEs P fns N sc es es' && (decide (es.length = 1) || decide (es.length = 2))
    | _ => false)
  | .enu a, t0, e0 => (match t0, e0 with
    | .Tuple _ _ _, .Call (.Name x _) [a'] [] _ => decide (x = "enumerate") && glB sc x && noStar a' && chkE P fns N sc a a'
    | _, _ => false)
  | .tab l, _, e0 => (match e0 with
    | .Name x _ => hasTab P.tabs x l && decide (l.map (·.1)).Nodup && glB sc x
    | _ => false)
  | .zip a b, t0, e0 => (match t0, e0 with
    | .Tuple _ _ _, .Call (.Name x _) [a', b'] [] _ => decide (x = "zip") && glB sc x && noStar a' && noStar b' && chkE P fns N sc a a' && chkE P fns N sc b b'
    | _, _ => false)
  | .rng3 a b c, _, e0 => (match e0 with
    | .Call (.Name x _) [a', b', c'] [] _ => decide (x = "range") && glB sc x && noStar a' && noStar b' && noStar c' && chkE P fns N sc a a' && chkE P fns N sc b b' && chkE P fns N sc c c'
    | _ => false)
end
end Rw
end
section
set_option Elab.async false
set_option linter.all false
set_option maxRecDepth 100000
namespace Rw
open PySem PySem.Spec PyProof.Rows L2
section
variable {P : Pg} {fns : Nat → Option Fn} {ca fa : Nat → Addr} {fdt : Nat → FuncData} {C : Cal} {k : Nat} {X : Cx} {N : List Str} {sc : Scope} {W : XK}
theorem s_dict {mu : Bool} {pos : Pos} : SE ca C X W (.dict mu) (.Dict [] [] pos) := by
  refine PE.imp pe_dnewK fun σ H Q h => ?_
  obtain ⟨p, F, G, r, M, sr, er, h⟩ := h
  unfold evE at h
  exact fun a hn => mkD_ok sr (.nil : PrD X.K ca p F [] []) h hn
theorem getV_ok {K : PySem.W.Frag} {p : List Addr} {F G H : Hp} {M : Ar} {l : List (Key × D)} {y b x : D} {vy vb : V} {a : Addr} {Q : VK} (sr : SR K ca p F G M H) (rx : RD K ca p F x (.ref a)) (hl : dkOf M x = some l) (ry : RD K ca p F y vy) (rb : RD K ca p F b vb) (h : Tk K ca (RD K ca) W G p F (getV l y b M) Q) : ∃ o : Option V, DGet H a vy o ∧ Q (o.getD vb) H := by
  unfold getV at h
  cases q : keyD y with
  | none => simp only [q] at h; exact h.elim
  | some kk =>
    simp only [q] at h
    have ey := keyD_ok ry q
    subst ey
    obtain ⟨a', kvs, e0, k1, k2⟩ := dkOf_ok sr rx hl
    cases e0
    obtain ⟨v1, v2⟩ := val_ok (k := kk) k2
    refine ⟨valV kvs kk, .inl ⟨kvs, kk, k1, rfl, rfl⟩, ?_⟩
    cases q2 : valD l kk with
    | none =>
      rw [q2] at h
      rw [v2 q2]
      exact Tk.ok (show Tk K ca (RD K ca) W G p F (.ok b M) Q from h) sr rb
    | some d =>
      rw [q2] at h
      obtain ⟨v, e1, e2⟩ := v1 d q2
      rw [e1]
      exact Tk.ok (show Tk K ca (RD K ca) W G p F (.ok d M) Q from h) sr e2
theorem isD_of {K : PySem.W.Frag} {p : List Addr} {F G H : Hp} {M : Ar} {l : List (Key × D)} {x : D} {v : V} (sr : SR K ca p F G M H) (rx : RD K ca p F x v) (hl : dkOf M x = some l) : ∃ a, v = .ref a ∧ IsD H a := by
  obtain ⟨a, kvs, e, k1, _⟩ := dkOf_ok sr rx hl
  exact ⟨a, e, .inl ⟨kvs, k1⟩⟩
theorem m1_of {o e : Expr} {m : Str} {apos cpos : Pos} (h1 : noSuper o = true) (h2 : (apos.endLine == cpos.line) = true) (h3 : noStar e = true) : M1 X o m apos e cpos where
  base := noSuper_ok h1 _ _
  few := by
    have e1 : (backTo cpos (starEach [e] X.env)).all (fun x => !x.1) = true := star_all (by simp [h3])
    rw [e1]
    rfl
  line := h2
  trees := by rw [noStar_ok h3]; rfl
theorem m2_of {o e f : Expr} {m : Str} {apos cpos : Pos} (h1 : noSuper o = true) (h2 : (apos.endLine == cpos.line) = true) (h3 : noStar e = true) (h4 : noStar f = true) : M2 X o m apos e f cpos where
  base := noSuper_ok h1 _ _
  few := by
    have e1 : (backTo cpos (starEach [e, f] X.env)).all (fun x => !x.1) = true := star_all (by simp [h3, h4])
    rw [e1]
    rfl
  line := h2
  trees := by rw [noStar_ok h3, noStar_ok h4]; rfl
theorem s_get1 (g : Good P fns ca fa fdt C k X N sc W) {d a : Ex} {d' a' : Expr} {ap cp : Pos} (h1 : noSuper d' = true) (h2 : (ap.endLine == cp.line) = true) (h3 : noStar a' = true) (hd : SE ca C X W d d') (ha : SE ca C X W a a') : SE ca C X W (.get1 d a) (.Call (.Attribute d' "get" ap) [a'] [] cp) := by
  have hu : X.A.units + 1 < cLine := by have := g.hu; omega
  refine PE.imp (pe_dget1 hu hd ha (m1_of h1 h2 h3)) fun σ H Q h => ?_
  obtain ⟨p, F, G, r, M, sr, er, h⟩ := h
  refine ⟨p, F, G, r, M, sr, er, (Tk.bind (rel := RD X.K ca) h).mono fun v H1 ⟨p1, F1, x, M1, a1, b1, s1, r1, _, hh⟩ => ?_⟩
  cases q : dkOf M1 x with
  | none => simp only [q] at hh; exact hh.elim
  | some l =>
    simp only [q] at hh
    obtain ⟨b, e1, e2⟩ := isD_of s1 r1 q
    subst e1
    refine ⟨b, rfl, e2, p1, F1, G, r, M1, s1, er.sub a1 b1, (Tk.bind (rel := RD X.K ca) hh).mono fun w H2 ⟨p2, F2, y, M2, a2, b2, s2, r2, _, h2⟩ => ?_⟩
    cases q2 : dkOf M2 x with
    | none => simp only [q2] at h2; exact h2.elim
    | some l2 =>
      simp only [q2] at h2
      exact getV_ok s2 (RD.sub a2 b2 _ _ r1) q2 r2 (show RD X.K ca p2 F2 (.t .non) .non from rfl) h2
theorem s_get2 (g : Good P fns ca fa fdt C k X N sc W) {d a b : Ex} {d' a' b' : Expr} {ap cp : Pos} (h1 : noSuper d' = true) (h2 : (ap.endLine == cp.line) = true) (h3 : noStar a' = true) (h4 : noStar b' = true) (hd : SE ca C X W d d') (ha : SE ca C X W a a') (hb : SE ca C X W b b') : SE ca C X W (.get2 d a b) (.Call (.Attribute d' "get" ap) [a', b'] [] cp) := by
  have hu : X.A.units + 1 < cLine := by have := g.hu; omega
  refine PE.imp (pe_dget2 hu hd ha hb (m2_of h1 h2 h3 h4)) fun σ H Q h => ?_
  obtain ⟨p, F, G, r, M, sr, er, h⟩ := h
  refine ⟨p, F, G, r, M, sr, er, (Tk.bind (rel := RD X.K ca) h).mono fun v H1 ⟨p1, F1, x, M1, a1, b1, s1, r1, _, hh⟩ => ?_⟩
  cases q : dkOf M1 x with
  | none => simp only [q] at hh; exact hh.elim
  | some l =>
    simp only [q] at hh
    obtain ⟨ad, e1, e2⟩ := isD_of s1 r1 q
    subst e1
    refine ⟨ad, rfl, e2, p1, F1, G, r, M1, s1, er.sub a1 b1, (Tk.bind (rel := RD X.K ca) hh).mono fun w H2 ⟨p2, F2, y, M2, a2, b2, s2, r2, _, h2⟩ => ?_⟩
    refine ⟨p2, F2, G, r, M2, s2, (er.sub a1 b1).sub a2 b2, (Tk.bind (rel := RD X.K ca) h2).mono fun u H3 ⟨p3, F3, z, M3, a3, b3, s3, r3, _, h3⟩ => ?_⟩
    cases q2 : dkOf M3 x with
    | none => simp only [q2] at h3; exact h3.elim
    | some l2 =>
      simp only [q2] at h3
      exact getV_ok s3 (RD.sub (a2.trans a3) (b2.trans b3) _ _ r1) q2 (RD.sub a3 b3 _ _ r2) r3 h3
theorem s_split {a b : Ex} {a' b' : Expr} {ap cp : Pos} (h1 : noSuper a' = true) (h2 : (ap.endLine == cp.line) = true) (h3 : noStar b' = true) (ha : SE ca C X W a a') (hb : SE ca C X W b b') : SE ca C X W (.split a b) (.Call (.Attribute a' "split" ap) [b'] [] cp) := by
  refine PE.imp (pe_split ha hb (noStar_ok h3 _ _) (noSuper_ok h1 _ _) h2) fun σ H Q h => ?_
  obtain ⟨p, F, G, r, M, sr, er, h⟩ := h
  refine ⟨p, F, G, r, M, sr, er, (Tk.bind (rel := RD X.K ca) h).mono fun v H1 ⟨p1, F1, x, M1, a1, b1, s1, r1, _, hh⟩ => ?_⟩
  cases q : stOf x with
  | none => simp only [q] at hh; exact hh.elim
  | some z =>
    simp only [q] at hh
    refine ⟨⟨z, stOf_ok r1 q⟩, p1, F1, G, r, M1, s1, er.sub a1 b1, (Tk.bind (rel := RD X.K ca) hh).mono fun w H2 ⟨p2, F2, y, M2, a2, b2, s2, r2, _, h2⟩ => ?_⟩
    unfold splitV at h2
    cases q2 : stOf y with
    | none => simp only [q, q2] at h2; exact h2.elim
    | some u =>
      simp only [q, q2] at h2
      obtain ⟨z1, z2⟩ := Tk.okIf h2
      simp only [Bool.and_eq_true, decide_eq_true_eq] at z1
      rw [line_eq] at z1
      refine ⟨z, u, stOf_ok r1 q, by rw [stOf_ok r2 q2], by simpa using z1.1, z1.2, fun ad hn => ?_⟩
      obtain ⟨n1, n2⟩ := s2.newF (o := .lst ((Txt.split z u).map V.str)) hn
      exact z2 _ _ _ _ (Pre.refl _) n1 n2 ⟨ad, _, rfl, upd_same, strs_RTs _⟩
theorem s_join {a b : Ex} {a' b' : Expr} {ap cp : Pos} (h1 : noSuper a' = true) (h2 : (ap.endLine == cp.line) = true) (h3 : noStar b' = true) (ha : SE ca C X W a a') (hb : SE ca C X W b b') : SE ca C X W (.join a b) (.Call (.Attribute a' "join" ap) [b'] [] cp) := by
  refine PE.imp (pe_join ha hb (noStar_ok h3 _ _) (noSuper_ok h1 _ _) h2) fun σ H Q h => ?_
  obtain ⟨p, F, G, r, M, sr, er, h⟩ := h
  refine ⟨p, F, G, r, M, sr, er, (Tk.bind (rel := RD X.K ca) h).mono fun v H1 ⟨p1, F1, x, M1, a1, b1, s1, r1, _, hh⟩ => ?_⟩
  cases q : stOf x with
  | none => simp only [q] at hh; exact hh.elim
  | some z =>
    simp only [q] at hh
    refine ⟨⟨z, stOf_ok r1 q⟩, p1, F1, G, r, M1, s1, er.sub a1 b1, (Tk.bind (rel := RD X.K ca) hh).mono fun w H2 ⟨p2, F2, y, M2, a2, b2, s2, r2, _, h2⟩ => ?_⟩
    unfold joinV at h2
    cases q2 : lsOf M2 y with
    | none => simp only [q, q2, Option.bind_none] at h2; exact h2.elim
    | some l =>
      cases q3 : mapO stOf l with
      | none => simp only [q, q2, q3, Option.bind_some] at h2; exact h2.elim
      | some ys =>
        simp only [q, q2, q3, Option.bind_some] at h2
        obtain ⟨z1, z2⟩ := Tk.okIf h2
        obtain ⟨ad, vs, e1, e2, e3⟩ := lsOf_ok s2 r2 q2
        have e4 := sts_ok e3 q3
        subst e4
        refine ⟨z, ad, ys, stOf_ok r1 q, by rw [e1], .inl (SqL.of e2), of_decide_eq_true z1, z2.ok s2 rfl⟩
end
end Rw
end
section
set_option Elab.async false
set_option linter.all false
set_option maxRecDepth 100000
namespace Rw.Ts
open PySem PySem.Spec PyProof.Rows
theorem unl_le (seen : List Str) : ∀ xs : List Str, unl seen xs ≤ xs.length := fun xs => by
  induction xs generalizing seen with
  | nil => exact Nat.le_refl _
  | cons x r ih =>
    have := ih (seen ++ [x])
    show (if x ∈ seen then 0 else 1) + unl (seen ++ [x]) r ≤ r.length + 1
    split <;> omega
section
variable {P : Program} {w : World} {A : Around} {T : Result → Shared → Prop} {J : Addr} {fo wo : List Addr} {G : Array GenState → Array GenState → Prop} {m : Nat} {V : Nat → Value → Prop} {Z : Nat → Shared → Prop}
abbrev TSet (P : Program) (w : World) (h : Heap) (a : Addr) (ys : List Str) (n : Nat) : Prop := h.SetOf (strKind P w) a (fun y => decide (y ∈ ys)) n
theorem TSet.moved {h h' : Heap} {a : Addr} {ys : List Str} {n : Nat} (x : TSet P w h a ys n) (k : ∀ o, h.get? a = some o → h'.get? a = some o) : TSet P w h' a ys n := by
  obtain ⟨o, es, ep, tb, ho, rest⟩ := x
  exact ⟨o, es, ep, tb, k _ ho, rest⟩
/-- the loop that puts what is left in -/
theorem put_rest (W : WalksS P w A.in1 J fo wo G m V Z) {a : Addr} (ha : a ∉ fo) {all : List Str} (hl : all.length = m) (hm : m < 4000) (hv : ∀ i v, V i v → ∃ t, v = .str (all.getD i Str.empty) t) :
    ∀ (rest done : List Str) (n : Nat) (s : Shared), all = done ++ rest → n ≤ done.length → Z done.length s → TSet P w s.heap a done n →
      (∀ s', Moved (a :: wo) G s s' → TSet P w s'.heap a all (n + unl done rest) → T (.ok (.ret .none)) s') →
      codeAny (model P w) A (.builtin "set.update.loop" ⟨[.ref a, .ref J], []⟩) T s := by
  have aw : a ∉ wo := fun z => ha (W.sub _ z)
  have more : ∀ b ∈ wo, b ∈ a :: wo := fun b hb => List.mem_cons_of_mem _ hb
  intro rest
  induction rest with
  | nil =>
    intro done n s he hn st ts fin
    rw [List.append_nil] at he
    have em : done.length = m := by rw [← he]; exact hl
    rw [em] at st
    refine codeAny_builtin F.entry_set_update_loop ?_
    rw [Around.under_plainId F.plain_set_update_loop _]
    refine wpAny_bind (m := pyNext (.ref J)) (W.done s _ _ st fun s1 mv => ?_)
    refine wpAny_pure (fin s1 (mv.mono more) ?_)
    rw [he]
    exact ts.moved (fun o e => mv.heap a _ aw e)
  | cons x r ih =>
    intro done n s he hn st ts fin
    have hlt : done.length < m := by rw [← hl, he, List.length_append, List.length_cons]; omega
    refine codeAny_builtin F.entry_set_update_loop ?_
    rw [Around.under_plainId F.plain_set_update_loop _]
    refine wpAny_bind (m := pyNext (.ref J)) (W.item done.length s _ _ hlt st fun v s1 pv st1 mv => ?_)
    obtain ⟨t, rfl⟩ := hv _ _ pv
    have ex : all.getD done.length Str.empty = x := by rw [he]; simp
    rw [ex]
    have ts1 : TSet P w s1.heap a done n := ts.moved (fun o e => mv.heap a _ aw e)
    refine wpAny_bind (m := holding [Value.str x t] (setAdd a (.str x t))) (wpAny_holding ?_)
    unfold setAdd
    refine wpAny_holding (wpAny_bind ((strKind P w).pyHash (k := x) (strKind_is _ _ _ _) ?_))
    refine wpAny_setAddHashed_of (knd := strKind P w) (s := { s1 with toks := s1.toks + 1 }) (strKind_is _ _ _ _) rfl ts1 (by unfold scanBound; omega) fun h2 sb ts2 => ?_
    have ts3 : TSet P w h2 a (done ++ [x]) (n + if x ∈ done then 0 else 1) := by
      refine SetOf_congr ts2 (fun y => ?_) ?_
      · simp [List.mem_append]
      · by_cases hx : x ∈ done <;> simp [hx]
    refine wpAny_pure ⟨plainId_quiet F.plain_set_update_loop _, ih (done ++ [x]) _ _ (by rw [he, List.append_assoc]; rfl) ?_ ?_ ts3 fun s3 mv3 ts4 => ?_⟩
    · rw [List.length_append, List.length_singleton]
      split <;> omega
    · rw [List.length_append, List.length_singleton]
      exact W.frame _ s1 _ _ st1 (Nat.le_succ _) fun b hb o e => (sb.2 b (fun z => ha (z ▸ hb))).trans e
    · refine fin s3 (Moved.trans W.gtrans ((mv.mono more).then_heap (Nat.le_succ _) fun b o hb e => (sb.2 b (fun z => hb (z ▸ List.mem_cons_self))).trans e) mv3) ?_
      rw [Nat.add_assoc] at ts4
      exact ts4
end
section
variable {P : Program} {w : World} {A : Around} {E : Value → Shared → Prop} {s : Shared}
abbrev set0 (led : Bool) : Obj := { cls := .type "set", dict := none, data := .set #[] 0 (.fresh 0 0 led) }
set_option maxHeartbeats 4000000 in
theorem set_of_texts {l : Addr} {its : Array Value} {xs : List Str} {Q : Value → Shared → Prop} (calm : A.handled = none) (hl : s.heap.IsList l its) (hx : StrsAre its.toList xs) (hn : xs.length < 4000)
    (q : ∀ h' tk, TSet P w h' s.heap.objs.size xs (unl [] xs) → (∀ b o, b < s.heap.objs.size → s.heap.get? b = some o → h'.get? b = some o) → Q (.ref s.heap.objs.size) { s with heap := h', toks := tk }) :
    wpAny (model P w) A (call (.type "set") [.ref l]) Q E s := by
  obtain ⟨c0, tl0, mro0⟩ := F.called_set.mro
  have m0 := F.called_set.made
  have m1 := F.called_set.sub
  refine wpAny_call (codeAny_of_tree ?_)
  change wpAny (model P w) _ (callAny (Value.type "set") _) _ _ s
  refine wpAny_pure ⟨Code.quiet_builtin _ (by decide +kernel), codeAny_builtin F.entry_type_call (?_)⟩
  rw [Around.under_plain (weight_type_call_type ("set" : String) [.ref l] []) rfl]
  have m2 := F.called_set.notType
  have m3 := F.called_set.canCreate
  have m4 := F.typeCall_set_1 (.ref l)
  repeat (any_goals (first | assumption | wp_step))
  refine codeAny_mono (code_set_new_1 (.ref l) (E := E) (Q₁ := fun v s1 => ∃ led, v = .ref s.heap.objs.size ∧ s1 = { s with heap := s.heap.push (set0 led) }) fun led => ⟨led, rfl, rfl⟩) fun res s1 hres => ?_
  rcases res with e | fl
  · exact hres
  rcases fl with _ | _ | _ | v
  · exact hres.elim
  · exact hres.elim
  · exact hres.elim
  obtain ⟨led, rfl, rfl⟩ := hres
  have gS : (s.heap.push (set0 led)).get? s.heap.objs.size = some (set0 led) := Heap.get?_push_size _ rfl
  have tS : Shared.TypeIs { s with heap := s.heap.push (set0 led) } (.ref s.heap.objs.size) "set" := ⟨_, gS, rfl⟩
  have i1 := F.called_set.init.lookup
  have i2 := F.called_set.init.bind (.ref s.heap.objs.size)
  repeat (any_goals (first | assumption | wp_step))
  refine codeAny_mono (codeAny_call_builtin (R := wants (fun v s2 => v = .none ∧ ∃ h' tk, s2 = { s with heap := h', toks := tk } ∧ TSet P w h' s.heap.objs.size xs (unl [] xs) ∧ ∀ b o, b < s.heap.objs.size → s.heap.get? b = some o → h'.get? b = some o) E)
    F.called_set.init.plain F.entry_set_init (check_set_init_1 tS ?_)) fun res2 s2 hres2 => ?_
  · obtain ⟨ol, gl, cl, nl, dl⟩ := hl
    obtain ⟨oc, od, oda, osl⟩ := ol
    simp only at cl dl
    subst cl
    subst dl
    have gl1 : (s.heap.push (set0 led)).get? l = some { cls := .type "list", dict := od, data := .seq its nl, slots := osl } := Heap.get?_push_of_some _ gl
    have n1 := F.sub_list_set
    have n2 := F.sub_list_frozenset
    have n3 : (Value.type "list" == Value.type "dict") = false := by decide
    have isl : (s.heap.push (set0 led)).IsList l its := ⟨_, gl1, rfl, nl, rfl⟩
    unfold Builtin.«set.__init__» noKeywords Builtin.Frozenset.updateFrom
    generalize hit : pyIter = it0
    wp_walk
    subst hit
    refine wpAny_pyIter_list isl (wpAny_bind (wpAny_runValue ?_))
    have ll : l < s.heap.objs.size := Heap.lt_size gl
    have calm3 : A.in1.in1.in1.handled = none := by simp [calm]
    have sz1 : (s.heap.push (set0 led)).objs.size = s.heap.objs.size + 1 := Heap.size_push ..
    have nI : l ≠ (s.heap.push (set0 led)).objs.size := by rw [sz1]; exact Nat.ne_of_lt (Nat.lt_succ_of_lt ll)
    have nF : s.heap.objs.size ∉ [(s.heap.push (set0 led)).objs.size, l] := by
      rw [sz1]
      simp only [List.mem_cons, List.not_mem_nil, or_false, not_or]
      exact ⟨Nat.ne_of_lt (Nat.lt_succ_self _), Nat.ne_of_gt ll⟩
    have hm : xs.length = its.size := by rw [← StrsAre.len_eq hx, Array.length_toList]
    have hval : ∀ (i : Nat) (v : Value), its[i]? = some v → ∃ t, v = .str (xs.getD i Str.empty) t := fun i v e => SS.strs_at hx i v (by rw [Array.getElem?_toList]; exact e)
    refine put_rest ((Walks.list calm3 _ l nI its).toS) nF hm (by omega) hval xs [] 0 _ rfl (Nat.le_refl _) ⟨⟨_, Heap.get?_push_size _ rfl, rfl, rfl⟩, isl.push _⟩ ?_ ?_
    · refine SetOf_congr ((setObjOf_fresh (knd := strKind P w) led).setOf (Heap.get?_push_of_some _ gS) (by unfold scanBound; omega)) (fun y => ?_) rfl
      simp
    · intro s3 mv ts
      obtain ⟨h3, g3, d3, t3, o3⟩ := s3
      have e1 : g3 = s.gens := mv.gens
      have e2 : d3 = s.drawn := mv.drawn
      have e3 : o3 = s.os := mv.os
      subst e1
      subst e2
      subst e3
      refine wpAny_pure (wpAny_pure ⟨rfl, h3, t3, rfl, ?_, fun b o hb e => ?_⟩)
      · rw [Nat.zero_add] at ts
        exact ts
      · refine mv.heap b o ?_ (Heap.get?_push_of_some _ (Heap.get?_push_of_some _ e))
        rw [sz1]
        simp only [List.mem_cons, List.not_mem_nil, or_false, not_or]
        exact ⟨Nat.ne_of_lt hb, Nat.ne_of_lt (Nat.lt_succ_of_lt hb)⟩
  · rcases res2 with e | fl
    · exact hres2
    rcases fl with _ | _ | _ | v
    · exact hres2.elim
    · exact hres2.elim
    · exact hres2.elim
    obtain ⟨rfl, h', tk, rfl, ts, kk⟩ := hres2
    repeat (any_goals (first | assumption | wp_step))
    exact q _ _ ts kk
end
end Rw.Ts
end
section
set_option Elab.async false
set_option linter.all false
set_option maxRecDepth 100000
namespace Rw.Ts
open PySem PySem.Spec PyProof.Rows
/-- len(set(xs)), xs a list of texts -/
def tLen (K : PySem.W.Frag) (ta : L2.TE) : L2.TE := fun σ H Q => ta σ H fun x H1 => ∃ (l : Addr) (xs : List Str), x = .ref l ∧ L2.SqL K H1 l (xs.map L2.V.str) ∧ xs.length < 4000 ∧ Q (.int (unl [] xs)) H1
theorem pe_len {X : L2.Cx} {a : Expr} {ta : L2.TE} {p1 p2 p3 p4 : Pos} (hc : X.calm = true) (g1 : L2.Gl X "len") (m1 : X.mg "len" = none) (g2 : L2.Gl X "set") (m2 : X.mg "set" = none) (ha : L2.PE X a ta)
    (na : starEach [a] X.env = (false, eval a X.env) :: starEach [] X.env) : L2.PE X (.Call (.Name "len" p1) [.Call (.Name "set" p2) [a] [] p3] [] p4) (tLen X.K ta) := by
  refine ⟨fun pins s σ H Q I h => Call_ (L2.ld_blt I g1 m1 boot_len ?_)⟩
  refine callWith_builtin1 (args_cons (Call_ (L2.ld_blt I g2 m2 boot_set ?_)) rfl) rfl rfl
  refine callWith_type1 (args_cons (L2.thn (ha.run pins s σ H _ I h) fun v s1 hv => args_nil ?_) na) na rfl
  obtain ⟨x, H1, I1, rv, l, xs, rfl, hq, hn, q⟩ := hv
  cases rv
  obtain ⟨its, ri, pl, hz⟩ := I1.list hq
  refine set_of_texts (I1.ok.hd hc) pl.isList (by simpa using L2.strsAre_of ri) hn fun h' tk ts kk => args_nil ?_
  obtain ⟨o, es, ep, tb, ho, hex, hd, _, _, _, hf, hcn⟩ := ts
  have I2 : L2.Inv X pins σ H1 { s1 with heap := h', toks := tk } := I1.kept fun b o e => kk b o (Heap.lt_size e) e
  have hu := unl_le [] xs
  exact call_len_set ho hex hd hf (by rw [hcn]; omega) ⟨.int (unl [] xs), H1, I2.tok _, ⟨_, by rw [hcn]⟩, q⟩
end Rw.Ts
end
section
set_option Elab.async false
set_option linter.all false
set_option maxRecDepth 100000
namespace Rw.Zl
open PySem PySem.Spec PyProof.Rows
abbrev lo (acc : Array Value) (c : Nat) : Obj := { cls := .type "list", dict := none, data := .seq acc c, slots := #[] }
abbrev bad (S z TO i1 i2 : Addr) : List Addr := [S, z, TO, i1, i2]
/-- a zip that has given out k pairs, while a list is made at S -/
structure ZS (h : Heap) (z TI TO i1 i2 l1 l2 S : Addr) (xs ys : Array Value) (k : Nat) : Prop where
  ti : PySem.IsPair h TI (.ref i1) (.ref i2)
  to : ∃ o, h.get? TO = some o
  a1 : h.IsListIter i1 l1 k
  a2 : h.IsListIter i2 l2 k
  b1 : h.IsList l1 xs
  b2 : h.IsList l2 ys
  zz : (IsZip h z TI TO .none ∧ ∃ a b, PySem.IsPair h TO a b) ∨ ∃ T f oT, IsZipHeld h z TI TO T f ∧ h.get? T = some oT ∧ T ≠ z ∧ T ≠ i1 ∧ T ≠ i2 ∧ T ≠ S
/-- the tuples that it has given out -/
structure TU (h : Heap) (no : List Addr) (low : Nat) (xs ys : Array Value) (ts : List Addr) : Prop where
  is : ∀ (j : Nat) t, ts[j]? = some t → ∃ x y, xs[j]? = some x ∧ ys[j]? = some y ∧ PySem.IsPair h t x y
  nb : ∀ t ∈ ts, t ∉ no ∧ low ≤ t ∧ t < h.objs.size
  nd : ts.Nodup
theorem TU.kept {h h' : Heap} {no : List Addr} {low : Nat} {xs ys : Array Value} {ts : List Addr} (x : TU h no low xs ys ts) (k : ∀ b o, b ∉ no → h.get? b = some o → h'.get? b = some o) (hz : h.objs.size ≤ h'.objs.size) : TU h' no low xs ys ts :=
  ⟨fun j t e => by
    obtain ⟨u, v, e1, e2, e3⟩ := x.is j t e
    exact ⟨u, v, e1, e2, k t _ (x.nb t (List.mem_of_getElem? e)).1 e3⟩, fun t ht => ⟨(x.nb t ht).1, (x.nb t ht).2.1, Nat.lt_of_lt_of_le (x.nb t ht).2.2 hz⟩, x.nd⟩
theorem TU.add {h : Heap} {no : List Addr} {low n : Nat} {xs ys : Array Value} {ts : List Addr} {u v : Value} (x : TU h no low xs ys ts) (hn : n ∉ no) (h1 : low ≤ n) (h2 : n < h.objs.size) (h3 : ∀ t ∈ ts, t < n) (e1 : xs[ts.length]? = some u) (e2 : ys[ts.length]? = some v) (e3 : PySem.IsPair h n u v) : TU h no low xs ys (ts ++ [n]) := by
  refine ⟨fun j t e => ?_, fun t ht => ?_, List.nodup_append.mpr ⟨x.nd, by simp, fun a ha b hb => ?_⟩⟩
  · by_cases hj : j < ts.length
    · rw [List.getElem?_append_left hj] at e
      exact x.is j t e
    · rw [List.getElem?_append_right (by omega)] at e
      have hj2 : j - ts.length = 0 := by
        have := (List.getElem?_eq_some_iff.mp e).1
        simp at this
        omega
      rw [hj2] at e
      have : n = t := by simpa using e
      subst this
      have hj3 : j = ts.length := by omega
      subst hj3
      exact ⟨u, v, e1, e2, e3⟩
  · rcases List.mem_append.mp ht with ht | ht
    · exact x.nb t ht
    · rw [List.mem_singleton.mp ht]
      exact ⟨hn, h1, h2⟩
  · rw [List.mem_singleton.mp hb]
    exact Nat.ne_of_lt (h3 a ha)
section
variable {P : Program} {w : World} {A : Around} {E : Value → Shared → Prop} {R : Result → Shared → Prop} {z TI TO i1 i2 l1 l2 S : Addr} {xs ys : Array Value}
/-- one pair more -/
theorem next_pair {s : Shared} {k : Nat} {Q : Option Value → Shared → Prop} (D : ZipApart z TI TO i1 i2 l1 l2) (hS : S ≠ z ∧ S ≠ TI ∧ S ≠ TO ∧ S ≠ i1 ∧ S ≠ i2 ∧ S ≠ l1 ∧ S ≠ l2) (hSl : S < s.heap.objs.size) (Z : ZS s.heap z TI TO i1 i2 l1 l2 S xs ys k) (hk : k < min xs.size ys.size)
    (q : ∀ h' x y, xs[k]? = some x → ys[k]? = some y → ZS h' z TI TO i1 i2 l1 l2 S xs ys (k + 1) → PySem.IsPair h' s.heap.objs.size x y → h'.objs.size = s.heap.objs.size + 1 → (∀ b o, b ≠ z → b ≠ TO → b ≠ i1 → b ≠ i2 → s.heap.get? b = some o → h'.get? b = some o) →
      Q (some (.ref s.heap.objs.size)) { s with heap := h' }) : wpAny (model P w) A (pyNext (.ref z)) Q E s := by
  obtain ⟨ti, ⟨oTO, to⟩, a1, a2, b1, b2, zz⟩ := Z
  have ex := Array.getElem?_eq_getElem (show k < xs.size by omega)
  have ey := Array.getElem?_eq_getElem (show k < ys.size by omega)
  have lt : ∀ {c o}, s.heap.get? c = some o → s.heap.objs.size ≠ c := fun e => Nat.ne_of_gt (Heap.lt_size e)
  have n1 : s.heap.objs.size ≠ i1 := let ⟨_, e, _⟩ := a1; lt e
  have n2 : s.heap.objs.size ≠ i2 := let ⟨_, e, _⟩ := a2; lt e
  rcases zz with ⟨hz, a, b, hTO⟩ | ⟨T, f, oT, hz, hT, r1, r2, r3, r4⟩
  · refine wpAny_pyNext_zip_item D hz ti hTO a1 a2 b1 b2 ex ey fun h' c1 c2 c3 c4 c5 c6 kp => ?_
    refine q h' _ _ ex ey ⟨kp _ _ D.TIz D.TITO D.TIi1 D.TIi2 ti, ⟨_, c2⟩, c3, c4, b1.at fun o e => kp _ o D.l1z D.l1TO D.l1i1 D.l1i2 e, b2.at fun o e => kp _ o D.l2z D.l2TO D.l2i1 D.l2i2 e, ?_⟩ c5 c6 kp
    exact .inr ⟨s.heap.objs.size, false, _, c1, c5, lt hz, n1, n2, Nat.ne_of_gt hSl⟩
  · refine wpAny_pyNext_zip_item_held D hz hT ti a1 a2 b1 b2 ex ey fun h' c1 c3 c4 c5 c6 kp => ?_
    refine q h' _ _ ex ey ⟨kp _ _ D.TIz D.TIi1 D.TIi2 ti, ⟨_, kp _ _ D.TOz D.TOi1 D.TOi2 to⟩, c3, c4, b1.at fun o e => kp _ o D.l1z D.l1i1 D.l1i2 e, b2.at fun o e => kp _ o D.l2z D.l2i1 D.l2i2 e, ?_⟩ c5 c6 (fun b o h1 _ h3 h4 e => kp b o h1 h3 h4 e)
    exact .inr ⟨T, true, oT, c1, kp _ _ r1 r2 r3 hT, r1, r2, r3, r4⟩
theorem next_end {s : Shared} {Q : Option Value → Shared → Prop} (calm : A.handled = none) (D : ZipApart z TI TO i1 i2 l1 l2) (Z : ZS s.heap z TI TO i1 i2 l1 l2 S xs ys (min xs.size ys.size))
    (q : ∀ h', (∀ b o, b ≠ z → b ≠ TO → b ≠ i1 → b ≠ i2 → s.heap.get? b = some o → h'.get? b = some o) → Q none { s with heap := h' }) : wpAny (model P w) A (pyNext (.ref z)) Q E s := by
  obtain ⟨ti, to, a1, a2, b1, b2, zz⟩ := Z
  have fin : xs[min xs.size ys.size]? = none ∨ ys[min xs.size ys.size]? = none := by
    rcases Nat.le_total xs.size ys.size with h | h
    · exact .inl (Array.getElem?_eq_none (by omega))
    · exact .inr (Array.getElem?_eq_none (by omega))
  rcases zz with ⟨hz, a, b, hTO⟩ | ⟨T, f, oT, hz, hT, r1, r2, r3, r4⟩
  · exact wpAny_pyNext_zip_end calm D hz ti hTO a1 a2 b1 b2 fin fun h' kp => q h' kp
  · exact wpAny_pyNext_zip_end_held calm D hz hT ti a1 a2 b1 b2 fin fun h' kp => q h' (fun b o h1 _ h3 h4 e => kp b o h1 h3 h4 e)
theorem ZS.other {h h' : Heap} {k : Nat} (D : ZipApart z TI TO i1 i2 l1 l2) (hS : S ≠ z ∧ S ≠ TI ∧ S ≠ TO ∧ S ≠ i1 ∧ S ≠ i2 ∧ S ≠ l1 ∧ S ≠ l2) (Z : ZS h z TI TO i1 i2 l1 l2 S xs ys k) (kp : ∀ b o, b ≠ S → h.get? b = some o → h'.get? b = some o) : ZS h' z TI TO i1 i2 l1 l2 S xs ys k := by
  obtain ⟨ti, ⟨oTO, to⟩, a1, a2, b1, b2, zz⟩ := Z
  obtain ⟨s1, s2, s3, s4, s5, s6, s7⟩ := hS
  refine ⟨kp _ _ (Ne.symm s2) ti, ⟨_, kp _ _ (Ne.symm s3) to⟩, a1.at fun o e => kp _ o (Ne.symm s4) e, a2.at fun o e => kp _ o (Ne.symm s5) e, b1.at fun o e => kp _ o (Ne.symm s6) e, b2.at fun o e => kp _ o (Ne.symm s7) e, ?_⟩
  rcases zz with ⟨hz, a, b, hTO⟩ | ⟨T, f, oT, hz, hT, r1, r2, r3, r4⟩
  · exact .inl ⟨kp _ _ (Ne.symm s1) hz, a, b, kp _ _ (Ne.symm s3) hTO⟩
  · exact .inr ⟨T, f, oT, kp _ _ (Ne.symm s1) hz, kp _ _ r4 hT, r1, r2, r3, r4⟩
theorem loop (D : ZipApart z TI TO i1 i2 l1 l2) (hS : S ≠ z ∧ S ≠ TI ∧ S ≠ TO ∧ S ≠ i1 ∧ S ≠ i2 ∧ S ≠ l1 ∧ S ≠ l2) (calm : A.in1.handled = none) (hn : min xs.size ys.size ≤ sizeLine) (res : Value) (low : Nat) :
    ∀ (k : Nat) (s : Shared) (acc : Array Value) (c : Nat) (ts : List Addr), min xs.size ys.size = ts.length + k → acc.toList = ts.map Value.ref → low ≤ s.heap.objs.size → ZS s.heap z TI TO i1 i2 l1 l2 S xs ys ts.length → TU s.heap (bad S z TO i1 i2) low xs ys ts → s.heap.get? S = some (lo acc c) →
      (∀ h' acc' c' ts', ts'.length = min xs.size ys.size → acc'.toList = ts'.map Value.ref → TU h' (bad S z TO i1 i2) low xs ys ts' → h'.get? S = some (lo acc' c') → (∀ b o, b ∉ bad S z TO i1 i2 → s.heap.get? b = some o → h'.get? b = some o) → R (.ok (.ret res)) { s with heap := h' }) →
      codeAny (model P w) A (.builtin "list.extend.loop" ⟨[.ref S, .ref z, res], []⟩) R s := by
  intro k
  induction k with
  | zero =>
    intro s acc c ts hk ha hl Z U gS fin
    rw [Nat.add_zero] at hk
    refine codeAny_builtin F.entry_extend_loop ?_
    rw [Around.under_plainId F.plain_extend_loop _]
    rw [← hk] at Z
    refine wpAny_bind (m := pyNext (.ref z)) (next_end calm D Z fun h' kp => wpAny_pure ?_)
    have kp' : ∀ b o, b ∉ bad S z TO i1 i2 → s.heap.get? b = some o → h'.get? b = some o := fun b o hb e => by
      simp only [List.mem_cons, List.not_mem_nil, or_false, not_or] at hb
      exact kp b o hb.2.1 hb.2.2.1 hb.2.2.2.1 hb.2.2.2.2 e
    have U' : TU h' (bad S z TO i1 i2) low xs ys ts := by
      refine ⟨fun j t e => ?_, fun t ht => ?_, U.nd⟩
      · obtain ⟨u, v, e1, e2, e3⟩ := U.is j t e
        exact ⟨u, v, e1, e2, kp' t _ (U.nb t (List.mem_of_getElem? e)).1 e3⟩
      · obtain ⟨j, hj⟩ := List.mem_iff_getElem?.mp ht
        obtain ⟨u, v, _, _, e3⟩ := U.is j t hj
        exact ⟨(U.nb t ht).1, (U.nb t ht).2.1, Heap.lt_size (kp' t _ (U.nb t ht).1 e3)⟩
    exact fin h' acc c ts hk.symm ha U' (kp S _ hS.1 hS.2.2.1 hS.2.2.2.1 hS.2.2.2.2.1 gS) kp'
  | succ k ih =>
    intro s acc c ts hk ha hl Z U gS fin
    refine codeAny_builtin F.entry_extend_loop ?_
    rw [Around.under_plainId F.plain_extend_loop _]
    have hasz : acc.size = ts.length := by rw [← Array.length_toList, ha, List.length_map]
    refine wpAny_bind (m := pyNext (.ref z)) (next_pair D hS (Heap.lt_size gS) Z (by omega) fun h1 x y ex ey Z1 pr sz kp => ?_)
    have gS1 : h1.get? S = some (lo acc c) := kp S _ hS.1 hS.2.2.1 hS.2.2.2.1 hS.2.2.2.2.1 gS
    refine wpAny_bind (m := updateSeq S (·.push (.ref s.heap.objs.size))) (wpAny_updateSeq (s := { s with heap := h1 }) gS1 rfl (wpAny_pure ⟨plainId_quiet F.plain_extend_loop _, ?_⟩) (by rw [hasz]; omega) (by show (acc.push _).size ≤ sizeLine + 1; rw [Array.size_push, hasz]; omega))
    have oth : ∀ b o, b ≠ S → h1.get? b = some o → (h1.update S (Obj.mapSeq (·.push (.ref s.heap.objs.size)))).get? b = some o := fun b o hb e => (Heap.get?_update_other _ _ (Ne.symm hb)).trans e
    have sz2 : (h1.update S (Obj.mapSeq (·.push (.ref s.heap.objs.size)))).objs.size = h1.objs.size := (Heap.SameBut.update h1 S _).1
    have kp1 : ∀ b o, b ∉ bad S z TO i1 i2 → s.heap.get? b = some o → h1.get? b = some o := fun b o hb e => by
      simp only [List.mem_cons, List.not_mem_nil, or_false, not_or] at hb
      exact kp b o hb.2.1 hb.2.2.1 hb.2.2.2.1 hb.2.2.2.2 e
    have kp2 : ∀ b o, b ∉ bad S z TO i1 i2 → h1.get? b = some o → (h1.update S (Obj.mapSeq (·.push (.ref s.heap.objs.size)))).get? b = some o := fun b o hb e => oth b o (fun q => hb (q ▸ List.mem_cons_self)) e
    have lz : z < s.heap.objs.size := by
      rcases Z.zz with ⟨hz, _⟩ | ⟨T, f, oT, hz, _⟩
      · exact Heap.lt_size hz
      · exact Heap.lt_size hz
    have nn : s.heap.objs.size ∉ bad S z TO i1 i2 := by
      obtain ⟨oTO, to⟩ := Z.to
      obtain ⟨o1, e1, _⟩ := Z.a1
      obtain ⟨o2, e2, _⟩ := Z.a2
      simp only [List.mem_cons, List.not_mem_nil, or_false, not_or]
      exact ⟨Nat.ne_of_gt (Heap.lt_size gS), Nat.ne_of_gt lz, Nat.ne_of_gt (Heap.lt_size to), Nat.ne_of_gt (Heap.lt_size e1), Nat.ne_of_gt (Heap.lt_size e2)⟩
    have U1 := U.kept kp1 (by rw [sz]; exact Nat.le_succ _)
    have U2 := U1.add nn hl (by rw [sz]; exact Nat.lt_succ_self _) (fun t ht => (U.nb t ht).2.2) ex ey pr
    have U3 := U2.kept kp2 (Nat.le_of_eq sz2.symm)
    refine ih _ (acc.push (.ref s.heap.objs.size)) _ (ts ++ [s.heap.objs.size]) (by rw [List.length_append, List.length_singleton]; omega) (by rw [Array.toList_push, ha, List.map_append]; rfl) ?_ ?_ U3 (Heap.get?_update_self _ gS1 rfl) fun h' acc' c' ts' q1 q2 q3 q4 q5 => fin h' acc' c' ts' q1 q2 q3 q4 fun b o hb e => q5 b o hb (kp2 b o hb (kp1 b o hb e))
    · show low ≤ (h1.update S _).objs.size
      rw [sz2, sz]
      exact Nat.le_succ_of_le hl
    · rw [List.length_append, List.length_singleton]
      exact Z1.other D hS oth
end
end Rw.Zl
end
section
set_option Elab.async false
set_option linter.all false
set_option maxRecDepth 100000
namespace Rw.Zl
open PySem PySem.Spec PyProof.Rows
theorem no_len : typeLookup (.type "zip") "__len__" = pure none := am_miss_of_fast (by decide +kernel)
theorem no_hint : typeLookup (.type "zip") "__length_hint__" = pure none := am_miss_of_fast (by decide +kernel)
section
variable {P : Program} {w : World} {A : Around} {E : Value → Shared → Prop} {R : Result → Shared → Prop} {z TI TO i1 i2 l1 l2 S : Addr} {xs ys : Array Value} {s : Shared}
/-- a new zip -/
structure Z0 (h : Heap) (z TI TO i1 i2 l1 l2 : Addr) (xs ys : Array Value) : Prop where
  zz : IsZip h z TI TO .none
  ti : PySem.IsPair h TI (.ref i1) (.ref i2)
  to : PySem.IsPair h TO .none .none
  a1 : h.IsListIter i1 l1 0
  a2 : h.IsListIter i2 l2 0
  b1 : h.IsList l1 xs
  b2 : h.IsList l2 ys
theorem Z0.kept {h h' : Heap} (Z : Z0 h z TI TO i1 i2 l1 l2 xs ys) (kp : ∀ b ∈ [z, TI, TO, i1, i2, l1, l2], ∀ o, h.get? b = some o → h'.get? b = some o) : Z0 h' z TI TO i1 i2 l1 l2 xs ys :=
  ⟨kp z (by simp) _ Z.zz, kp TI (by simp) _ Z.ti, kp TO (by simp) _ Z.to, Z.a1.at fun o e => kp i1 (by simp) o e, Z.a2.at fun o e => kp i2 (by simp) o e, Z.b1.at fun o e => kp l1 (by simp) o e, Z.b2.at fun o e => kp l2 (by simp) o e⟩
theorem Z0.zs {h : Heap} (Z : Z0 h z TI TO i1 i2 l1 l2 xs ys) : ZS h z TI TO i1 i2 l1 l2 S xs ys 0 := ⟨Z.ti, ⟨_, Z.to⟩, Z.a1, Z.a2, Z.b1, Z.b2, .inl ⟨Z.zz, _, _, Z.to⟩⟩
abbrev Fit (R : Result → Shared → Prop) (res : Value) (s : Shared) (S z TO i1 i2 : Addr) (low : Nat) (xs ys : Array Value) : Prop := ∀ h' acc c ts, ts.length = min xs.size ys.size → acc.toList = ts.map Value.ref → TU h' (bad S z TO i1 i2) low xs ys ts → h'.get? S = some (lo acc c) → (∀ b o, b ∉ bad S z TO i1 i2 → s.heap.get? b = some o → h'.get? b = some o) → R (.ok (.ret res)) { s with heap := h' }
theorem extend (D : ZipApart z TI TO i1 i2 l1 l2) (hS : S ≠ z ∧ S ≠ TI ∧ S ≠ TO ∧ S ≠ i1 ∧ S ≠ i2 ∧ S ≠ l1 ∧ S ≠ l2) (calm : A.in1.handled = none) (hn : min xs.size ys.size ≤ sizeLine) (res : Value) {c : Nat} {low : Nat} (hl : low ≤ s.heap.objs.size)
    (Z : Z0 s.heap z TI TO i1 i2 l1 l2 xs ys) (gS : s.heap.get? S = some (lo #[] c)) (fin : Fit R res s S z TO i1 i2 low xs ys) :
    wpAny (model P w) A.in1 (Builtin.List.listExtendWith (.ref S) (.ref z) res)
      (fun f s' => match f with | .done f => R (.ok f) s' | .again c' => c'.quiet = true ∧ codeAny (model P w) A c' R s') (fun e s' => R (.error e) s') s := by
  have ty : s.TypeIs (.ref z) "zip" := ⟨_, Z.zz, rfl⟩
  unfold Builtin.List.listExtendWith
  refine wpAny_bind (wpAny_typeOf ty ?_)
  have e1 : Builtin.List.listSameRef (.ref S) (.ref z) = false := by simp [Builtin.List.listSameRef, hS.1]
  have e2 : (Value.type "zip" == Value.type "list") = false := by decide
  have e3 : (Value.type "zip" == Value.type "tuple") = false := by decide
  simp only [e1, e2, e3, Bool.or_false, Bool.false_eq_true, if_false]
  refine wpAny_bind (wpAny_pyIter_zip Z.zz (wpAny_bind (wpAny_holding ?_)))
  unfold Builtin.List.listLengthHint
  refine wpAny_bind (wpAny_specialOf ty no_len ?_)
  refine wpAny_bind (m := specialOf (Value.ref z) (Str.ofString "__length_hint__")) (wpAny_specialOf ty no_hint (wpAny_pure ?_))
  refine wpAny_bind (m := rule "list.extend.makes-room") (wpAny_rule ?_)
  refine wpAny_bind (m := updateSeq S (·.push .none) >>= fun _ => updateSeq S (·.pop)) (wpAny_bind (wpAny_updateSeq gS rfl ?_))
  have g2 := Heap.get?_update_self (Obj.mapSeq (·.push Value.none)) gS rfl
  refine wpAny_updateSeq (hz := by seq_fits) g2 rfl ?_
  have g3 := Heap.get?_update_self (Obj.mapSeq (·.pop)) g2 rfl
  have oth : ∀ b o, b ≠ S → s.heap.get? b = some o → ((s.heap.update S (Obj.mapSeq (·.push Value.none))).update S (Obj.mapSeq (·.pop))).get? b = some o := fun b o hb e => (Heap.get?_update_other _ _ (Ne.symm hb)).trans ((Heap.get?_update_other _ _ (Ne.symm hb)).trans e)
  have sz : ((s.heap.update S (Obj.mapSeq (·.push Value.none))).update S (Obj.mapSeq (·.pop))).objs.size = s.heap.objs.size := (Heap.SameBut.update _ S _).1.trans (Heap.SameBut.update _ S _).1
  refine wpAny_pure ⟨plainId_quiet F.plain_extend_loop _, loop D hS calm hn res low (min xs.size ys.size) _ #[] _ [] (by simp) rfl (by rw [sz]; exact hl) (Z.zs.other D hS oth) ⟨fun j t e => by simp at e, fun t ht => (nomatch ht), List.nodup_nil⟩ g3 fun h' acc c' ts q1 q2 q3 q4 q5 => ?_⟩
  exact fin h' acc c' ts q1 q2 q3 q4 fun b o hb e => q5 b o hb (oth b o (fun q => hb (q ▸ List.mem_cons_self)) e)
theorem init (D : ZipApart z TI TO i1 i2 l1 l2) (hS : S ≠ z ∧ S ≠ TI ∧ S ≠ TO ∧ S ≠ i1 ∧ S ≠ i2 ∧ S ≠ l1 ∧ S ≠ l2) (calm : A.in1.handled = none) (hn : min xs.size ys.size ≤ sizeLine) {low : Nat} (hl : low ≤ s.heap.objs.size)
    (Z : Z0 s.heap z TI TO i1 i2 l1 l2 xs ys) (gS : s.heap.get? S = some (lo #[] 0)) (fin : Fit R .none s S z TO i1 i2 low xs ys) :
    wpAny (model P w) A.in1 (Builtin.«list.__init__» ⟨[.ref S, .ref z], []⟩)
      (fun f s' => match f with | .done f => R (.ok f) s' | .again c' => c'.quiet = true ∧ codeAny (model P w) A c' R s') (fun e s' => R (.error e) s') s := by
  refine wpAny_bind (m := Builtin.List.listItems (.ref S)) ?_
  unfold Builtin.List.listItems
  refine wpAny_bind (wpAny_seqItems gS rfl (wpAny_pure ?_))
  refine wpAny_bind (m := updateSeq S (fun _ => #[])) (wpAny_updateSeq gS rfl ?_)
  have g2 := Heap.get?_update_self (Obj.mapSeq (fun _ => (#[] : Array Value))) gS rfl
  have oth : ∀ b o, b ≠ S → s.heap.get? b = some o → (s.heap.update S (Obj.mapSeq (fun _ => (#[] : Array Value)))).get? b = some o := fun b o hb e => (Heap.get?_update_other _ _ (Ne.symm hb)).trans e
  have sz : (s.heap.update S (Obj.mapSeq (fun _ => (#[] : Array Value)))).objs.size = s.heap.objs.size := (Heap.SameBut.update _ S _).1
  refine wpAny_bind (m := letGo (#[] : Array Value).toList.reverse) (wpAny_letGo ?_)
  refine extend D hS calm hn .none (low := low) (by rw [sz]; exact hl) (Z.kept fun b hb o e => oth b o (fun q => ?_) e) g2 fun h' acc c ts q1 q2 q3 q4 q5 => fin h' acc c ts q1 q2 q3 q4 fun b o hb e => q5 b o hb (oth b o (fun q => hb (q ▸ List.mem_cons_self)) e)
  obtain ⟨s1, s2, s3, s4, s5, s6, s7⟩ := hS
  simp only [List.mem_cons, List.not_mem_nil, or_false] at hb
  rcases hb with h | h | h | h | h | h | h
  · exact s1 (q.symm.trans h)
  · exact s2 (q.symm.trans h)
  · exact s3 (q.symm.trans h)
  · exact s4 (q.symm.trans h)
  · exact s5 (q.symm.trans h)
  · exact s6 (q.symm.trans h)
  · exact s7 (q.symm.trans h)
/-- list(z), z a new zip; what stood ahead of it (below low) stands -/
theorem call_list {Q : Value → Shared → Prop} (D : ZipApart z TI TO i1 i2 l1 l2) (calm : A.handled = none) (hn : min xs.size ys.size ≤ sizeLine) (Z : Z0 s.heap z TI TO i1 i2 l1 l2 xs ys) (hlt : ∀ b ∈ [z, TI, TO, i1, i2, l1, l2], b < s.heap.objs.size)
    (q : ∀ h' acc c ts, ts.length = min xs.size ys.size → acc.toList = ts.map Value.ref → TU h' (bad s.heap.objs.size z TO i1 i2) s.heap.objs.size xs ys ts → h'.get? s.heap.objs.size = some (lo acc c) → (∀ b o, b ∉ bad s.heap.objs.size z TO i1 i2 → s.heap.get? b = some o → h'.get? b = some o) → Q (.ref s.heap.objs.size) { s with heap := h' }) :
    wpAny (model P w) A (call (.type "list") [.ref z]) Q E s := by
  refine callType_codes (Q₁ := fun v s1 => v = .ref s.heap.objs.size ∧ s1 = { s with heap := s.heap.push (lo #[] 0) }) F.called_list (F.typeCall_list_1 _) F.entry_list_init (code_list_new _ ⟨rfl, rfl⟩) fun v s1 hv => ?_
  obtain ⟨rfl, rfl⟩ := hv
  have g1 : (s.heap.push (lo #[] 0)).get? s.heap.objs.size = some (lo #[] 0) := Heap.get?_push_size _ rfl
  have ne : ∀ b ∈ [z, TI, TO, i1, i2, l1, l2], s.heap.objs.size ≠ b := fun b hb => Nat.ne_of_gt (hlt b hb)
  refine ⟨⟨_, g1, rfl⟩, F.args_list_init_2 _ _, init (A := A.in1) D ⟨ne z (by simp), ne TI (by simp), ne TO (by simp), ne i1 (by simp), ne i2 (by simp), ne l1 (by simp), ne l2 (by simp)⟩ calm hn (low := s.heap.objs.size) (by show s.heap.objs.size ≤ (s.heap.push _).objs.size; rw [Heap.size_push]; exact Nat.le_succ _)
    (Z.kept fun b _ o e => Heap.get?_push_of_some _ e) g1 fun h' acc c ts q1 q2 q3 q4 q5 => ⟨rfl, q h' acc c ts q1 q2 q3 q4 fun b o hb e => q5 b o hb (Heap.get?_push_of_some _ e)⟩⟩
end
end Rw.Zl
end
section
set_option Elab.async false
set_option linter.all false
set_option maxRecDepth 100000
namespace Rw.Zl
open PySem PySem.Spec PyProof.Rows L2
def layT (H : Hp) : List Addr → List (V × V) → Hp
  | t :: ts, q :: r => layT (upd H t (.tup [q.1, q.2])) ts r
  | _, _ => H
theorem layT_ne {b : Addr} : ∀ {ts : List Addr} {zs : List (V × V)} {H : Hp}, b ∉ ts → layT H ts zs b = H b
  | [], _, _, _ => rfl
  | t :: ts, [], _, _ => rfl
  | t :: ts, q :: r, H, h => by
    have h1 : b ≠ t := fun e => h (e ▸ List.mem_cons_self)
    show layT (upd H t _) ts r b = _
    rw [layT_ne (fun z => h (List.mem_cons_of_mem _ z)), upd_ne h1]
theorem hok_lay {P : Program} {w : World} {h : Heap} : ∀ {ts : List Addr} {zs : List (V × V)} {us : List (Value × Value)} {H : Hp}, Paired (fun (a : V × V) (b : Value × Value) => RelV a.1 b.1 ∧ RelV a.2 b.2) zs us →
    (∀ (j : Nat) t, ts[j]? = some t → ∃ q, us[j]? = some q ∧ PySem.IsPair h t q.1 q.2) → (∀ t ∈ ts, H t = none) → ts.Nodup → HOk P w H h → HOk P w (layT H ts zs) h
  | [], _, _, _, _, _, _, _, x => x
  | t :: ts, [], _, _, _, _, _, _, x => x
  | t :: ts, q :: r, _, H, .cons ⟨r1, r2⟩ rest, hp, hn, nd, x => by
    rename_i u us
    obtain ⟨u', e1, e2⟩ := hp 0 t rfl
    have e1 : u = u' := by simpa using e1
    subst e1
    rw [List.nodup_cons] at nd
    show HOk P w (layT (upd H t (.tup [q.1, q.2])) ts r) h
    refine hok_lay (us := us) rest (fun j t' e => ?_) (fun t' ht' => ?_) nd.2 (x.laidN (fun b u e => e) (hn t List.mem_cons_self) ?_)
    · obtain ⟨q', z1, z2⟩ := hp (j + 1) t' (by simpa using e)
      exact ⟨q', by simpa using z1, z2⟩
    · rw [upd_ne (fun e : t' = t => nd.1 (e ▸ ht'))]
      exact hn t' (List.mem_cons_of_mem _ ht')
    · exact ⟨by rw [sizeLine_eq]; simp, [u.1, u.2], .cons r1 (.cons r2 .nil), ⟨_, e2, rfl, _, rfl⟩⟩
theorem zip_pr : ∀ {xs ys : List V} {us vs : List Value}, Vals xs us → Vals ys vs → Paired (fun (a : V × V) (b : Value × Value) => RelV a.1 b.1 ∧ RelV a.2 b.2) (xs.zip ys) (us.zip vs)
  | [], _, _, _, .nil, _ => .nil
  | _ :: _, [], _, _, .cons _ _, .nil => .nil
  | _ :: _, _ :: _, _, _, .cons a r, .cons b r' => .cons ⟨a, b⟩ (zip_pr r r')
theorem vals_refs : ∀ ts : List Addr, Vals (ts.map V.ref) (ts.map Value.ref)
  | [] => .nil
  | _ :: ts => .cons rfl (vals_refs ts)
theorem inv_lay {X : Cx} {pins : List (Addr × Obj)} {σ : L2.St} {H : Hp} {s : Shared} {h2 : Heap} {p : Addr} {ts : List Addr} {xs ys : List V} {us vs : List Value} {no : List Addr} {c : Nat} {acc : Array Value} {low : Nat} (I : Inv X pins σ H s) (kp : ∀ b o, s.heap.get? b = some o → h2.get? b = some o)
    (hl : s.heap.objs.size ≤ low) (hp : s.heap.objs.size ≤ p) (hpt : p ∉ ts) (r1 : Vals xs us) (r2 : Vals ys vs) (U : TU h2 no low us.toArray vs.toArray ts) (hts : ts.length = min us.length vs.length) (hn : ts.length ≤ sizeLine) (g : h2.get? p = some (lo acc c)) (ha : acc.toList = ts.map Value.ref) :
    Inv X pins σ (upd (layT H ts (xs.zip ys)) p (.lst (ts.map V.ref))) { s with heap := h2 } := by
  have low_ : ∀ {b}, b < s.heap.objs.size → b ∉ ts ∧ b ≠ p := fun {b} hb => ⟨fun z => Nat.lt_irrefl _ (Nat.lt_of_lt_of_le hb (Nat.le_trans hl (U.nb b z).2.1)), fun z => Nat.lt_irrefl _ (Nat.lt_of_lt_of_le hb (z ▸ hp))⟩
  have old : ∀ {b}, b < s.heap.objs.size → upd (layT H ts (xs.zip ys)) p (.lst (ts.map V.ref)) b = H b := fun {b} hb => by rw [upd_ne (low_ hb).2, layT_ne (low_ hb).1]
  have inH : ∀ {b o}, H b = some o → b < s.heap.objs.size := fun {b o} e => by
    by_cases hb : b < s.heap.objs.size
    · exact hb
    · rw [I.hok.fresh (Nat.le_of_not_lt hb)] at e
      cases e
  refine I.un (t' := s.toks) ?_ ?_
  · refine ⟨fun b o e _ _ _ => kp b o e, fun b o e _ _ _ => ⟨o.slots, by cases o; exact kp b _ e⟩, fun b o e n _ => by rw [old (Heap.lt_size e)]; exact n, fun b o e _ => ⟨o, kp b o e⟩, fun b xs e => by rw [old (inH e)]; exact e, fun b o u e => by rw [old (inH e)]; exact e, fun b ps e => ⟨#[], by rw [old (inH e), e]; simp⟩⟩
  · have k0 : HOk X.prog X.w H h2 := I.hok.kept kp
    have k1 : HOk X.prog X.w (layT H ts (xs.zip ys)) h2 := hok_lay (zip_pr r1 r2) (fun j t e => by
      obtain ⟨u, v, e1, e2, e3⟩ := U.is j t e
      refine ⟨(u, v), ?_, e3⟩
      rw [List.getElem?_toArray] at e1 e2
      rw [List.getElem?_zip_eq_some]
      exact ⟨e1, e2⟩) (fun t ht => I.hok.fresh (Nat.le_trans hl (U.nb t ht).2.1)) U.nd k0
    refine k1.laidN (fun b u e => e) (by rw [layT_ne hpt]; exact I.hok.fresh hp) ⟨by rw [List.length_map]; exact hn, ts.map Value.ref, c, vals_refs ts, ?_⟩
    rw [← ha]
    simpa using g
/-- list(zip(a, b)), of two lists -/
def tLz (K : PySem.W.Frag) (ta : TA) : TE := fun σ H Q => ta σ H fun vs H1 => ∃ a b xs ys, vs = [.ref a, .ref b] ∧ SqL K H1 a xs ∧ SqL K H1 b ys ∧
  ∀ p ts, H1 p = none → (∀ t ∈ ts, H1 t = none) → p ∉ ts → ts.Nodup → ts.length = min xs.length ys.length → Q (.ref p) (upd (layT H1 ts (xs.zip ys)) p (.lst (ts.map V.ref)))
theorem pe_lz {X : Cx} {a b : Expr} {ta : TA} {p1 p2 p3 p4 : Pos} (hc : X.calm = true) (g1 : Gl X "list") (m1 : X.mg "list" = none) (g2 : Gl X "zip") (m2 : X.mg "zip" = none) (ha : PA X [a, b] ta)
    (n1 : starEach [a, b] X.env = (false, eval a X.env) :: starEach [b] X.env) (n2 : (backTo p3 (starEach [b] X.env)).any (·.1) = false) : PE X (.Call (.Name "list" p1) [.Call (.Name "zip" p2) [a, b] [] p3] [] p4) (tLz X.K ta) := by
  refine ⟨fun pins s σ H Q I h => Call_ (ld_blt I g1 m1 boot_list ?_)⟩
  refine callWith_type1 (args_cons (Call_ (ld_blt I g2 m2 boot_zip ?_)) rfl) rfl rfl
  refine callWith_type1 (thn (ha.run p3 pins s σ H _ I h) fun us s1 hv => ?_) n1 n2
  obtain ⟨vs, H1, I1, rv, a', b', xs, ys, rfl, hx, hy, q⟩ := hv
  cases rv with
  | cons r rr =>
    cases rr with
    | cons r' rr =>
      cases rr
      cases r
      cases r'
      obtain ⟨its, v1, pl1, z1⟩ := I1.list hx
      obtain ⟨its2, v2, pl2, z2⟩ := I1.list hy
      refine call_zip_2 pl1.isList pl2.isList fun h' c1 c2 c3 c4 c5 sz kp => args_nil ?_
      have l1 := v1.length
      have l2 := v2.length
      have hmin : min its.toArray.size its2.toArray.size = min its.length its2.length := by simp
      have ap := PySem.W.ktu_apart s1.heap.objs.size a' b' pl1.lt pl2.lt
      refine call_list (s := { s1 with heap := h' }) ap (I1.ok.hd hc) (by rw [hmin]; omega) ⟨c1, c2, c3, c4, c5, pl1.isList.at fun o e => kp _ o e, pl2.isList.at fun o e => kp _ o e⟩ ?_ fun h2 acc c ts q1 q2 q3 q4 q5 => ?_
      · intro b hb
        show b < h'.objs.size
        rw [sz]
        have e1 := pl1.lt
        have e2 := pl2.lt
        simp only [List.mem_cons, List.not_mem_nil, or_false] at hb
        rcases hb with rfl | rfl | rfl | rfl | rfl | rfl | rfl
        · exact Nat.lt_succ_self _
        · exact Nat.lt_of_lt_of_le (Nat.lt_succ_self _) (Nat.add_le_add_left (by decide : 3 ≤ 5) _)
        · exact Nat.lt_of_lt_of_le (Nat.lt_succ_self _) (Nat.add_le_add_left (by decide : 4 ≤ 5) _)
        · exact Nat.lt_of_lt_of_le (Nat.lt_succ_self _) (Nat.add_le_add_left (by decide : 1 ≤ 5) _)
        · exact Nat.lt_of_lt_of_le (Nat.lt_succ_self _) (Nat.add_le_add_left (by decide : 2 ≤ 5) _)
        · exact Nat.lt_of_lt_of_le e1 (Nat.le_add_right _ _)
        · exact Nat.lt_of_lt_of_le e2 (Nat.le_add_right _ _)
      · have q1 : ts.length = min its.length its2.length := by rw [← hmin]; exact q1
        have szle : s1.heap.objs.size ≤ h'.objs.size := by rw [sz]; exact Nat.le_add_right _ _
        have pt : h'.objs.size ∉ ts := fun z => (q3.nb _ z).1 List.mem_cons_self
        have kk : ∀ b o, s1.heap.get? b = some o → h2.get? b = some o := fun b o e => q5 b o (by
          have hb := Heap.lt_size e
          simp only [List.mem_cons, List.not_mem_nil, or_false, not_or]
          exact ⟨Nat.ne_of_lt (Nat.lt_of_lt_of_le hb szle), Nat.ne_of_lt (Nat.lt_of_lt_of_le hb (Nat.le_add_right _ _)), Nat.ne_of_lt (Nat.lt_of_lt_of_le hb (Nat.le_add_right _ _)), Nat.ne_of_lt hb, Nat.ne_of_lt (Nat.lt_of_lt_of_le hb (Nat.le_add_right _ _))⟩) (kp b o e)
        refine ⟨.ref h'.objs.size, _, inv_lay (s := s1) I1 kk (low := h'.objs.size) szle szle pt v1 v2 q3 q1 (by omega) q4 q2, rfl, q _ ts (I1.hok.fresh szle) (fun t ht => I1.hok.fresh (Nat.le_trans szle (q3.nb t ht).2.1)) pt q3.nd (by rw [q1, l1, l2])⟩
end Rw.Zl
end
section
set_option Elab.async false
set_option linter.all false
set_option maxRecDepth 100000
set_option maxHeartbeats 4000000
namespace L2
open PySem PySem.Spec PyProof.Rows
theorem tuple_mul1 (l : Addr) (items : Array Value) (n : Nat) (dd : Option Addr) (sl : Array (Option Value)) (u : Tok) :
    Meets (Builtin.«tuple.__mul__» ⟨[.ref l, .int 1 u], []⟩) (fun _ R s => s.heap.get? l = some { cls := .type "tuple", dict := dd, data := .seq items n, slots := sl } ∧ R (.ok (.ret (Value.ref l))) s) :=
  .of_wp fun prog w A R s h => by
    obtain ⟨hp, g, d, tk, os⟩ := s
    obtain ⟨hl, h⟩ := h
    have f1 := AutoSeq1.idx_int
    have c0 : (decide ((1 : Int) < -(2 ^ 63)) || decide ((1 : Int) ≥ 2 ^ 63)) = false := by decide
    have c1 : (items.isEmpty || (1 : Int) == 1) = true := by simp
    wp_walk using wpAny_loadPart' hl
    repeat (first
      | (refine wpAny_ite_false (decide_eq_false (by rw [c0]; exact Bool.false_ne_true)) ?_; wp_walk using wpAny_loadPart' hl)
      | (refine wpAny_ite_true (decide_eq_true (by rw [c1])) ?_; wp_walk using wpAny_loadPart' hl))
    exact ⟨_, rfl, h⟩
def rRepT1 (K : PySem.W.Frag) : R2 := fun x y H Q => ∃ l xs, x = .ref l ∧ y = .int 1 ∧ SqT K H l xs ∧ Q (.ref l) H
section
variable {X : Cx}
theorem op_repT1 : OpR X (binaryOp .Mult) (rRepT1 X.K) := by
  intro pins s σ H x y v u Q I rx ry h
  obtain ⟨l, xs, rfl, rfl, hT, q⟩ := h
  cases rx
  obtain ⟨t, rfl⟩ := ry
  obtain ⟨its, r, ⟨⟨cls, dd, data, sl⟩, ho, hc, n, hd⟩, hs⟩ := I.tuple hT
  simp only at hc hd
  subst hc hd
  refine wpAny_binaryOp_repeat_ref (T := "tuple") (U := "int") (by decide) ⟨_, ho, rfl⟩ (fun s' => typeIs_int s' 1 t) noFill_tuple_mul F.fills_int_mul F.slot_int_rmul repeat_tuple F.slot_int_index.lookup
    (call_meets F.slot_int_rmul (typeIs_int s 1 t) F.entry_int_rmul (F.args_int_rmul_2 _ _) (int_rmul_tuple 1 t l its.toArray n dd sl)
      ⟨ho, rfl, ⟨_, ho, rfl⟩, call_meets F.slot_tuple_mul ⟨_, ho, rfl⟩ F.entry_tuple_mul (F.args_tuple_mul_2 _ _) (tuple_mul1 l its.toArray n dd sl t) ⟨ho, ?_⟩⟩)
  exact ⟨.ref l, H, I, rfl, q⟩
end
end L2
end
section
set_option Elab.async false
set_option linter.all false
set_option maxRecDepth 100000
namespace Rw
open PySem PySem.Spec PyProof.Rows L2
section
variable {P : Pg} {fns : Nat → Option Fn} {ca fa : Nat → Addr} {fdt : Nat → FuncData} {C : Cal} {k : Nat} {X : Cx} {N : List Str} {sc : Scope} {W : XK}
theorem strs_of {K : PySem.W.Frag} {p : List Addr} {F : Hp} : ∀ {l : List D} {vs : List V} {xs : List Str}, RDs K ca p F l vs → mapO stOf l = some xs → vs = xs.map V.str
  | [], _, xs, h, e => by
    have e1 : xs = [] := (Option.some.inj (show (some [] : Option (List Str)) = some xs from e)).symm
    subst e1
    exact h
  | d :: l, _, xs, ⟨v, w, e0, h1, h2⟩, e => by
    obtain ⟨x, m, q, q2, e2⟩ := mapO_cons e
    subst e2
    rw [e0, List.map_cons, stOf_ok h1 q, strs_of h2 q2]
theorem s_lenSet (g : Good P fns ca fa fdt C k X N sc W) {a : Ex} {a' : Expr} {p1 p2 p3 p4 : Pos} (h1 : glB sc "len" = true) (h2 : glB sc "set" = true) (h3 : noStar a' = true) (ha : SE ca C X W a a') : SE ca C X W (.lenSet a) (.Call (.Name "len" p1) [.Call (.Name "set" p2) [a'] [] p3] [] p4) := by
  refine PE.imp (Ts.pe_len g.calm (g.gl h1).1 (g.fx.free "len" (by decide)) (g.gl h2).1 (g.fx.free "set" (by decide)) ha (noStar_ok h3 _ _)) fun σ H Q h => ?_
  obtain ⟨p, F, G, r, M, sr, er, h⟩ := h
  refine ⟨p, F, G, r, M, sr, er, (Tk.bind (rel := RD X.K ca) h).mono fun v H1 ⟨p1, F1, x, M1, a1, b1, s1, r1, _, hh⟩ => ?_⟩
  unfold lenSetV at hh
  cases q : lsOf M1 x with
  | none => simp only [q] at hh; exact hh.elim
  | some l =>
    simp only [q, Option.bind_some] at hh
    cases q2 : mapO stOf l with
    | none => simp only [q2] at hh; exact hh.elim
    | some xs =>
      simp only [q2] at hh
      obtain ⟨z1, z2⟩ := Tk.okIf hh
      obtain ⟨b, vs, rfl, k1, k2⟩ := lsOf_ok s1 r1 q
      rw [strs_of k2 q2] at k1
      exact ⟨b, xs, rfl, SqL.of k1, of_decide_eq_true z1, z2.ok s1 rfl⟩
/-- the tuples laid, one behind the other -/
theorem zlay_ok {K : PySem.W.Frag} {p : List Addr} {G : Hp} {M : Ar} : ∀ {l m : List D} {xs ys : List V} {ts : List Addr} {F H : Hp}, SR K ca p F G M H → RDs K ca p F l xs → RDs K ca p F m ys → (∀ t ∈ ts, H t = none) → ts.Nodup → ts.length = min xs.length ys.length →
    ∃ F', Sub F F' ∧ SR K ca p F' G M (Zl.layT H ts (xs.zip ys)) ∧ RDs K ca p F' (zipL l m) (ts.map V.ref)
  | [], m, xs, ys, ts, F, H, s, h1, h2, _, _, hl => by
    have e : xs = [] := h1
    subst e
    have et : ts = [] := by
      cases ts with
      | nil => rfl
      | cons a b => simp at hl
    subst et
    exact ⟨F, Sub.refl _, s, rfl⟩
  | d :: l, [], xs, ys, ts, F, H, s, h1, h2, _, _, hl => by
    have e : ys = [] := h2
    subst e
    have et : ts = [] := by
      cases ts with
      | nil => rfl
      | cons a b => simp at hl
    subst et
    rw [List.zip_nil_right]
    exact ⟨F, Sub.refl _, s, rfl⟩
  | d :: l, e :: m, _, _, ts, F, H, s, ⟨x, xs, e1, h1, h1'⟩, ⟨y, ys, e2, h2, h2'⟩, hn, nd, hl => by
    subst e1
    subst e2
    cases ts with
    | nil => simp at hl
    | cons t ts =>
      rw [List.nodup_cons] at nd
      obtain ⟨w1, w2⟩ := s.newF (o := .tup [x, y]) (hn t List.mem_cons_self)
      obtain ⟨F', f1, f2, f3⟩ := zlay_ok (ts := ts) w2 (RDs.sub (Pre.refl _) w1 l xs h1') (RDs.sub (Pre.refl _) w1 m ys h2') (fun u hu => by
        rw [upd_ne (fun z : u = t => nd.1 (z ▸ hu))]
        exact hn u (List.mem_cons_of_mem _ hu)) nd.2 (by simpa using hl)
      refine ⟨F', w1.trans f1, f2, V.ref t, ts.map V.ref, rfl, ?_, f3⟩
      have ht : F' t = some (.tup [x, y]) := f1 _ _ upd_same
      exact RDs.frzT ⟨x, [y], rfl, RD.sub (Pre.refl _) (w1.trans f1) d x h1, y, [], rfl, RD.sub (Pre.refl _) (w1.trans f1) e y h2, rfl⟩ (SqT.of ht)
theorem s_listZip (g : Good P fns ca fa fdt C k X N sc W) {a b : Ex} {a' b' : Expr} {p1 p2 p3 p4 : Pos} (h1 : glB sc "list" = true) (h2 : glB sc "zip" = true) (h3 : ([a', b'] : List Expr).all noStar = true) (ha : SA ca C X W [a, b] [a', b']) : SE ca C X W (.listZip [a, b]) (.Call (.Name "list" p1) [.Call (.Name "zip" p2) [a', b'] [] p3] [] p4) := by
  have h3' : noStar a' = true ∧ noStar b' = true := by simpa using h3
  refine PE.imp (Zl.pe_lz g.calm (g.gl h1).1 (g.fx.free "list" (by decide)) (g.gl h2).1 (g.fx.free "zip" (by decide)) ha (noStar_ok h3'.1 _ _) (star_any (by simpa using h3'.2))) fun σ H Q h => ?_
  obtain ⟨p, F, G, r, M, sr, er, h⟩ := h
  refine ⟨p, F, G, r, M, sr, er, (Tk.bind (rel := RDs X.K ca) h).mono fun vs H1 ⟨p1, F1, ds, M1, a1, b1, s1, r1, _, hh⟩ => ?_⟩
  unfold listZipV at hh
  split at hh
  · rename_i x y _
    obtain ⟨v1, w1, rfl, k1, v2, w2, rfl, k2, rfl⟩ := r1
    cases q1 : lsOf M1 x with
    | none => simp only [q1] at hh; exact hh.elim
    | some l =>
      cases q2 : lsOf M1 y with
      | none => simp only [q1, q2] at hh; exact hh.elim
      | some m =>
        simp only [q1, q2] at hh
        obtain ⟨b1, xs, rfl, c1, c2⟩ := lsOf_ok s1 k1 q1
        obtain ⟨b2, ys, rfl, d1, d2⟩ := lsOf_ok s1 k2 q2
        refine ⟨b1, b2, xs, ys, rfl, SqL.of c1, SqL.of d1, fun pp ts n1 n2 n3 n4 n5 => ?_⟩
        obtain ⟨F', f1, f2, f3⟩ := zlay_ok s1 c2 d2 n2 n4 n5
        have np : Zl.layT H1 ts (xs.zip ys) pp = none := by rw [Zl.layT_ne n3]; exact n1
        obtain ⟨w1, w2⟩ := f2.newF (o := .lst (ts.map V.ref)) np
        exact hh _ _ _ _ (Pre.refl _) (f1.trans w1) w2 (RDs.frzL (RDs.sub (Pre.refl _) w1 _ _ f3) upd_same)
  · exact hh.elim
theorem intsF_RDs {K : PySem.W.Frag} {p : List Addr} {F : Hp} {α : Type} (f : α → Int) : ∀ l : List α, RDs K ca p F (l.map fun k => D.t (.int (f k))) (l.map fun k => V.int (f k))
  | [] => rfl
  | a :: l => ⟨V.int (f a), l.map (fun k => V.int (f k)), rfl, rfl, intsF_RDs f l⟩
theorem s_listRng (g : Good P fns ca fa fdt C k X N sc W) {a b : Ex} {a' b' : Expr} {q1 q2 q3 q4 : Pos} (k1 : glB sc "list" = true) (k2 : glB sc "range" = true) (k3 : noStar a' = true) (k4 : noStar b' = true) (ha : SE ca C X W a a') (hb : SE ca C X W b b') : SE ca C X W (.listRng a b) (.Call (.Name "list" q1) [.Call (.Name "range" q2) [a', b'] [] q3] [] q4) := by
  refine PE.imp (pe_listRg g.calm (g.gl k1).1 (g.fx.free "list" (by decide)) (prg_2 (g.gl k2).1 (g.fx.free "range" (by decide)) ha hb (noStar_ok k3 _ _) (noStar_ok k4 _ _) (star_any (by simpa using k4)))) fun σ H Q h => ?_
  obtain ⟨p, F, G, r, M, sr, er, h⟩ := h
  refine ⟨p, F, G, r, M, sr, er, (Tk.bind (rel := RD X.K ca) h).mono fun v H1 ⟨p1, F1, x, M1, a1, b1, s1, r1, e1, h1⟩ => ?_⟩
  refine ⟨p1, F1, G, r, M1, s1, er.sub a1 b1, (Tk.bind (rel := RD X.K ca) h1).mono fun w H2 ⟨p2, F2, y, M2, a2, b2, s2, r2, e2, h2⟩ => ?_⟩
  have r1' := RD.sub a2 b2 x v r1
  obtain ⟨i, j, ex, ey⟩ : ∃ i j, x = .t (.int i) ∧ y = .t (.int j) := by
    unfold listRngV at h2
    split at h2
    · exact ⟨_, _, rfl, rfl⟩
    · exact h2.elim
  subst ex
  subst ey
  unfold listRngV at h2
  obtain ⟨z1, z2⟩ := Tk.okIf h2
  simp only [Bool.and_eq_true, decide_eq_true_eq] at z1
  refine ⟨i, j, r1', r2, RgOk.of_le z1.1.1.1 z1.2 z1.1.1.2 z1.1.2, fun q hq => ?_⟩
  obtain ⟨w1, w2⟩ := s2.newF (o := .lst (rgV i j)) hq
  exact z2 _ _ _ _ (Pre.refl _) w1 w2 (RDs.frzL (intsF_RDs (fun (k : Nat) => i + (k : Int)) (List.range (j - i).toNat)) upd_same)
theorem op_repTV : OpR X (binaryOp .Mult) (rV X.K ca repTV) := by
  intro pins s σ H x y v u Q I rx ry h
  obtain ⟨p, F, G, M, dx, dy, W, sr, r1, r2, hh⟩ := h
  unfold repTV at hh
  split at hh
  · rename_i l k e
    obtain ⟨z1, z2⟩ := Tk.okIf hh
    simp only [Bool.and_eq_true, decide_eq_true_eq] at z1
    obtain ⟨a, vs, rfl, k1, k2⟩ := tpOf_ok sr r1 e
    obtain rfl : y = .int k := r2
    have rep : ∀ n : Nat, RDs X.K ca p F (List.replicate n l).flatten (List.replicate n vs).flatten := fun n => by
      induction n with
      | zero => rfl
      | succ n ih => rw [List.replicate_succ, List.replicate_succ, List.flatten_cons, List.flatten_cons]; exact k2.app ih
    have hl := k2.length
    by_cases hk : k = 1
    · subst hk
      refine op_repT1 pins s σ H _ _ v u Q I rx ry ⟨a, vs, rfl, rfl, sqT_sub sr.fr k1, ?_⟩
      have e1 : (List.replicate (1 : Int).toNat l).flatten = l := by simp
      rw [e1] at z2
      exact z2.ok sr (RDs.frzT k2 k1)
    · refine op_repT pins s σ H _ _ v u Q I rx ry ⟨a, k, vs, rfl, rfl, sqT_sub sr.fr k1, fun z => ?_, by omega, z1.1.2, by omega, fun b hb => ?_⟩
      · have : l = [] := by
          rw [z] at hl
          cases l with
          | nil => rfl
          | cons c d => simp at hl
        rw [this] at z1
        simp at z1
      · exact mkT_ok sr (rep k.toNat) z2 hb
  · exact hh.elim
theorem s_repT {a b : Ex} {a' b' : Expr} {pos : Pos} (ha : SE ca C X W a a') (hb : SE ca C X W b b') : SE ca C X W (.repT a b) (.BinOp a' .Mult b' pos) :=
  PE.imp (pe_op (op_repTV (ca := ca)) ha hb) fun σ H Q h => two_step (h : TEo X.K ca W (fun r M => (evE C a r M).bind fun x M => (evE C b r M).bind fun y M => repTV x y M) σ H Q)
end
end Rw
end
section
set_option Elab.async false
set_option linter.all false
set_option maxRecDepth 100000
namespace Rw.Si
open PySem PySem.Spec PyProof.Rows L2 L2.DX
variable {X : Cx}
def rItK : V → List V → Hp → VK → Prop := fun x xs H Q => ∃ (a : Addr) (kvs : List (Key × V)), x = .ref a ∧ xs = [] ∧ Rd H a (.dK kvs) ∧ ∀ p, H p = none → Q (.ref p) (upd H p (itemsO p a))
theorem mt_itK : MtR X "dict.items" rItK := by
  intro pins s σ H x xs v us Q I rx rxs h
  obtain ⟨a, kvs, rfl, rfl, ha, q⟩ := h
  cases rx
  cases rxs
  obtain ⟨z, hd, vs, kv, o, es, ep, ho, hx, hdat, _⟩ := dk_rd I.hok ha
  refine DT.callItems (es := es) (ep := ep) hd ⟨o, ho, hx, hdat⟩ ?_
  have hf : H s.heap.objs.size = none := I.hok.fresh (Nat.le_refl _)
  exact ⟨.ref s.heap.objs.size, upd H s.heap.objs.size (itemsO s.heap.objs.size a), I.laid (t' := s.toks) (fun b u e => Heap.get?_push_of_some _ e) (Nat.le_refl _) (itemsO_ok (Heap.get?_push_size _ rfl)), rfl, q _ hf⟩
/-- what lies in a pair -/
def pv (h : Heap) (t : Addr) : Value × Value := match h.get? t with
  | some ⟨_, _, .seq #[a, b] _, _⟩ => (a, b)
  | _ => (.none, .none)
def iv : Value → Int
  | .int i _ => i
  | _ => 0
def kp (h : Heap) : Value → Int × Int
  | .ref t => (iv (pv h t).1, iv (pv h t).2)
  | _ => (0, 0)
abbrev pI (q : Int × Int) : Key × V := (Sum.inl q.1, V.int q.2)
theorem pairs_at {P : Program} {w : World} {es : List DictEntry} : ∀ {vs : List (Key × Value)} {is : List (Int × Int)}, Pairs (mixKind P w) es vs → KV (is.map pI) vs → ∀ (j : Nat) (e : DictEntry), es[j]? = some e → ∃ (q : Int × Int) (t1 t2 : Tok), is[j]? = some q ∧ e.key = Value.int q.1 t1 ∧ e.val = Value.int q.2 t2 := by
  induction es with
  | nil => intro vs is _ _ j e h; cases h
  | cons e0 es ih =>
    intro vs is hp hk j e h
    cases hp with
    | @cons _ v0 _ vs h1 h2 h3 =>
      cases is with
      | nil => cases hk
      | cons q is =>
        cases hk with
        | cons a r =>
          cases j with
          | zero =>
            have e1 : e0 = e := Option.some.inj h
            subst e1
            obtain ⟨a1, a2⟩ := a
            have e3 : v0.1 = Sum.inl q.1 := a1.symm
            rw [e3] at h1
            rcases keyIs_shape (show keyIs (Sum.inl q.1) e0.key = true from h1) with ⟨_, t, q1, q2⟩ | ⟨_, _, q1, _⟩ <;> cases q1
            obtain ⟨t2, r2⟩ := a2
            exact ⟨q, t, t2, rfl, q2, h2.trans r2⟩
          | succ j => exact ih h3 r j e h
def rSrtI : List V → Hp → VK → Prop := fun vs H Q => ∃ (p a : Addr) (is : List (Int × Int)), vs = [.ref p] ∧ H p = some (itemsO p a) ∧ Rd H a (.dK (is.map pI)) ∧
  ∀ (l : Addr) (ts : List Addr) (js : List (Int × Int)), js.Perm is → js.Pairwise (fun x y => SrtO.lexB y x = false) → H l = none → (∀ t ∈ ts, H t = none) → l ∉ ts → ts.Nodup → ts.length = js.length →
    Q (.ref l) (upd (Zl.layT H ts (js.map fun q => (V.int q.1, V.int q.2))) l (.lst (ts.map V.ref)))
theorem cr_srtI (hc : X.calm = true) : CallR X (.builtin "sorted") rSrtI := by
  intro pins s σ H xs us Q I r h
  obtain ⟨p, a, is, rfl, hp, ha, q⟩ := h
  obtain rfl := Vals.ref1 r
  have view : s.heap.IsItemsView p a := (show ObjOk X.prog X.w H s.heap p (itemsO p a) from I.hok p _ hp).1
  obtain ⟨z, hd, vs, kv, o, es, ep, ho, hx, hdat, hko, hps, hn⟩ := dk_rd I.hok ha
  have lk : is.length = vs.length := by
    have := Paired.length kv
    rwa [List.length_map] at this
  have le : es.size = vs.length := by
    have := hps.length
    simpa using this
  have hz : is.length ≤ sizeLine := by simpa using z
  refine DT.sortedI (es := es) (ep := ep) (I.ok.hd hc) view ⟨o, ho, hx, hdat⟩ (by omega) fun h' tk as hk hlt hl hG => ?_
  have pr : ∀ (j : Nat) (b : Addr), as[j]? = some b → ∃ (q : Int × Int) (t1 t2 : Tok), is[j]? = some q ∧ h'.get? b = some { cls := .type "tuple", data := .seq #[Value.int q.1 t1, Value.int q.2 t2] } := by
    intro j b hj
    obtain ⟨e, he, hg⟩ := hG.pairs j b hj
    obtain ⟨q, t1, t2, e1, e2, e3⟩ := pairs_at hps kv j e (by rw [Array.getElem?_toList]; exact he)
    exact ⟨q, t1, t2, e1, by rw [hg, e2, e3]⟩
  have nd : as.Nodup := List.Pairwise.imp (fun h => Nat.ne_of_lt h) hG.rise
  have hob : (h'.push { cls := .type "list", data := .seq (as.map Value.ref).toArray }).get? h'.objs.size = some (seqObj "list" (as.map Value.ref).toArray 0) := Heap.get?_push_size _ rfl
  have kb : ∀ b o, h'.get? b = some o → (h'.push { cls := .type "list", data := .seq (as.map Value.ref).toArray }).get? b = some o := fun b o e => Heap.get?_push_of_some _ e
  have kq : ∀ (j : Nat) (b : Addr), as[j]? = some b → is[j]? = some (kp h' (.ref b)) ∧ ∃ t1 t2, h'.get? b = some { cls := .type "tuple", data := .seq #[Value.int (kp h' (.ref b)).1 t1, Value.int (kp h' (.ref b)).2 t2] } ∧ pv h' b = (.int (kp h' (.ref b)).1 t1, .int (kp h' (.ref b)).2 t2) := by
    intro j b hj
    obtain ⟨q, t1, t2, e1, e2⟩ := pr j b hj
    have e3 : pv h' b = (.int q.1 t1, .int q.2 t2) := by unfold pv; rw [e2]; rfl
    have e4 : kp h' (.ref b) = q := by
      show (iv (pv h' b).1, iv (pv h' b).2) = q
      rw [e3]
      rfl
    rw [e4]
    exact ⟨e1, t1, t2, e2, e3⟩
  have ks : (as.map fun b => kp h' (.ref b)) = is := by
    refine List.ext_getElem? fun j => ?_
    rw [List.getElem?_map]
    cases e : as[j]? with
    | some b => exact ((kq j b e).1).symm
    | none =>
      have : as.length ≤ j := List.getElem?_eq_none_iff.mp e
      exact (List.getElem?_eq_none (by omega)).symm
  have sort2 : 2 ≤ (as.map Value.ref).length → SrtO.SortableO X.prog X.w X.A.in1.in1 { s with heap := h'.push { cls := .type "list", data := .seq (as.map Value.ref).toArray }, toks := tk } h'.objs.size (as.map Value.ref) (fun v u => SrtO.lexB (kp h' v) (kp h' u)) := fun h2 => by
    refine SrtO.pairs_sortableO (by omega) (fun v hv => ?_) (fun o e => ?_)
    · obtain ⟨b, hb, rfl⟩ := List.mem_map.mp hv
      obtain ⟨j, hj⟩ := List.mem_iff_getElem?.mp hb
      obtain ⟨_, t1, t2, e2, _⟩ := kq j b hj
      exact ⟨b, _, t1, t2, _, rfl, kb _ _ e2, rfl, rfl⟩
    · have e' : some o = some (seqObj "list" (as.map Value.ref).toArray 0) := e.symm.trans hob
      cases e'
      intro c
      exact absurd (Value.type.inj c) (by decide)
  have hz2 : (as.map Value.ref).length ≤ sizeLine := by rw [List.length_map, hl]; omega
  refine wpAny_call_entry slot_list_sort ⟨_, hob, rfl⟩ entry_list_sort (SrtO.list_sort_ord (s := { s with heap := h'.push { cls := .type "list", data := .seq (as.map Value.ref).toArray }, toks := tk }) (SrtO.swo_lex (kp h')) hob hz2 sort2 fun out s1 s2 => ⟨_, rfl, ?_⟩) (args_list_sort _)
  obtain ⟨ts, ets⟩ : ∃ ts : List Addr, out = ts.map Value.ref := by
    have : ∀ l : List Value, (∀ v ∈ l, ∃ b, v = Value.ref b) → ∃ ts : List Addr, l = ts.map Value.ref := fun l => by
      induction l with
      | nil => exact fun _ => ⟨[], rfl⟩
      | cons v l ih =>
        intro h
        obtain ⟨b, rfl⟩ := h v List.mem_cons_self
        obtain ⟨ts, rfl⟩ := ih fun v hv => h v (List.mem_cons_of_mem _ hv)
        exact ⟨b :: ts, rfl⟩
    refine this out fun v hv => ?_
    obtain ⟨b, _, rfl⟩ := List.mem_map.mp (s2.perm.mem_iff.mp hv)
    exact ⟨b, rfl⟩
  subst ets
  have pm : ts.Perm as := by
    have z := s2.perm.map (fun v => match v with | Value.ref b => b | _ => 0)
    simp only [List.map_map] at z
    have i1 : ∀ l : List Addr, l.map ((fun v => match v with | Value.ref b => b | _ => 0) ∘ Value.ref) = l := fun l => by
      induction l with
      | nil => rfl
      | cons b l ih => rw [List.map_cons, ih]; rfl
    rwa [i1, i1] at z
  have ndt : ts.Nodup := pm.nodup_iff.mpr nd
  have lt_ : ts.length = as.length := pm.length_eq
  obtain ⟨c, hat⟩ := sortedHeap_at (vs := as.map Value.ref) (out := (ts.map Value.ref).toArray) hob
  have old : ∀ b o, h'.get? b = some o → (sortedHeap (h'.push { cls := .type "list", data := .seq (as.map Value.ref).toArray }) h'.objs.size (as.map Value.ref) (ts.map Value.ref).toArray).get? b = some o := fun b o e => by
    have lt := Heap.lt_size e
    rw [sortedHeap_old (Nat.ne_of_lt lt) (by rw [Heap.size_push]; exact Nat.lt_succ_of_lt lt)]
    exact kb b o e
  generalize hh2 : sortedHeap (h'.push { cls := .type "list", data := .seq (as.map Value.ref).toArray }) h'.objs.size (as.map Value.ref) (ts.map Value.ref).toArray = h2 at hat old
  have kps : ∀ b o, s.heap.get? b = some o → h2.get? b = some o := fun b o e => old b o (hk b o e)
  have inA : ∀ t ∈ ts, t ∈ as := fun t ht => pm.mem_iff.mp ht
  have szt : ∀ t ∈ ts, s.heap.objs.size ≤ t := fun t ht => Nat.le_of_lt (hG.above t (inA t ht))
  have new : ∀ t ∈ ts, H t = none := fun t ht => I.hok.fresh (szt t ht)
  have szl : s.heap.objs.size ≤ h'.objs.size := Nat.le_of_lt hlt
  have lnt : h'.objs.size ∉ ts := fun z => Nat.lt_irrefl _ (hG.there (inA _ z))
  have hfr : H h'.objs.size = none := I.hok.fresh szl
  have low_ : ∀ {b}, b < s.heap.objs.size → b ∉ ts ∧ b ≠ h'.objs.size := fun {b} hb => ⟨fun z => Nat.lt_irrefl _ (Nat.lt_of_lt_of_le hb (szt b z)), fun z => Nat.lt_irrefl _ (Nat.lt_of_lt_of_le hb (z ▸ szl))⟩
  refine ⟨.ref h'.objs.size, upd (Zl.layT H ts ((ts.map fun b => kp h' (.ref b)).map fun q => (V.int q.1, V.int q.2))) h'.objs.size (.lst (ts.map V.ref)), ?_, rfl, q _ ts (ts.map fun b => kp h' (.ref b)) (by rw [← ks]; exact pm.map _) ?_ hfr new lnt ndt (by rw [List.length_map])⟩
  · have oldH : ∀ {b}, b < s.heap.objs.size → upd (Zl.layT H ts ((ts.map fun b => kp h' (.ref b)).map fun q => (V.int q.1, V.int q.2))) h'.objs.size (.lst (ts.map V.ref)) b = H b := fun {b} hb => by rw [upd_ne (low_ hb).2, Zl.layT_ne (low_ hb).1]
    have inH : ∀ {b o}, H b = some o → b < s.heap.objs.size := fun {b o} e => by
      by_cases hb : b < s.heap.objs.size
      · exact hb
      · rw [I.hok.fresh (Nat.le_of_not_lt hb)] at e
        cases e
    refine I.un (t' := tk) ?_ ?_
    · refine ⟨fun b o e _ _ _ => kps b o e, fun b o e _ _ _ => ⟨o.slots, by cases o; exact kps b _ e⟩, fun b o e n _ => by rw [oldH (Heap.lt_size e)]; exact n, fun b o e _ => ⟨o, kps b o e⟩, fun b xs e => by rw [oldH (inH e)]; exact e, fun b o u e => by rw [oldH (inH e)]; exact e, fun b ps e => ⟨#[], by rw [oldH (inH e), e]; simp⟩⟩
    · have k0 : HOk X.prog X.w H h2 := I.hok.kept kps
      have k1 : HOk X.prog X.w (Zl.layT H ts ((ts.map fun b => kp h' (.ref b)).map fun q => (V.int q.1, V.int q.2))) h2 := by
        refine Zl.hok_lay (us := ts.map (pv h')) ?_ (fun j t e => ?_) new ndt k0
        · have : ∀ l : List Addr, (∀ t ∈ l, t ∈ as) → Paired (fun (a : V × V) (b : Value × Value) => RelV a.1 b.1 ∧ RelV a.2 b.2) ((l.map fun b => kp h' (.ref b)).map fun q => (V.int q.1, V.int q.2)) (l.map (pv h')) := fun l => by
            induction l with
            | nil => exact fun _ => .nil
            | cons t l ih =>
              intro h
              obtain ⟨j, hj⟩ := List.mem_iff_getElem?.mp (h t List.mem_cons_self)
              obtain ⟨_, t1, t2, _, e3⟩ := kq j t hj
              refine .cons ⟨?_, ?_⟩ (ih fun t ht => h t (List.mem_cons_of_mem _ ht))
              · rw [e3]; exact ⟨t1, rfl⟩
              · rw [e3]; exact ⟨t2, rfl⟩
          exact this ts inA
        · have ht := List.mem_of_getElem? e
          obtain ⟨j', hj'⟩ := List.mem_iff_getElem?.mp (inA t ht)
          obtain ⟨_, t1, t2, e2, e3⟩ := kq j' t hj'
          refine ⟨pv h' t, by rw [List.getElem?_map, e]; rfl, ?_⟩
          rw [e3]
          exact old _ _ e2
      refine k1.laidN (fun b u e => e) (by rw [Zl.layT_ne lnt]; exact hfr) ⟨by rw [List.length_map, lt_, hl]; omega, ts.map Value.ref, c, Zl.vals_refs ts, hat⟩
  · rw [List.pairwise_map]
    exact List.pairwise_map.mp s1
end Rw.Si
end
section
set_option Elab.async false
set_option linter.all false
set_option maxRecDepth 100000
set_option maxHeartbeats 0
namespace Rw
open PySem PySem.Spec PyProof.Rows L2
section
variable {X : Cx}
/-- xs.count(y), flat items -/
def rCntL (K : PySem.W.Frag) : V → List V → Hp → VK → Prop := fun x xs H Q => ∃ (a : Addr) (ys : List V) (y : V), x = V.ref a ∧ xs = [y] ∧ SqL K H a ys ∧ flatV y = true ∧ ys.all flatV = true ∧ Q (.int (ys.countP fun z => eqV z y : Nat)) H
theorem cnt_eq {y : V} : ∀ {ys : List V} {its : List Value}, Vals ys its → ys.all flatV = true → its.countP (eqU y) = ys.countP fun z => eqV z y
  | [], _, .nil, _ => rfl
  | z :: ys, _, .cons r t, h => by
    simp only [List.all_cons, Bool.and_eq_true] at h
    rw [List.countP_cons, List.countP_cons, cnt_eq t h.2, eqU_of r h.1]
theorem mt_cntL : MtR X "list.count" (rCntL X.K) := by
  intro pins s σ H x xs v us Q I rx rxs h
  obtain ⟨a, ys, y, rfl, rfl, hs, fy, fys, q⟩ := h
  cases rx
  obtain ⟨uy, rfl, ry⟩ := rxs.one
  obtain ⟨its, rv, ⟨⟨cls, dd, data, sl⟩, n, ho, hc, hdn, hd⟩, hlen⟩ := I.list hs
  simp only at hc hd
  subst hc hd
  refine call_meets PySem.F.slot_list_count ⟨_, ho, rfl⟩ PySem.F.entry_list_count (PySem.F.args_list_count_2 _ _)
    (SeqAt.list_countAt a its.toArray n dd sl uy (eqU y)) ⟨ho, fun u' hu' => mem_eqAt ry fy rv fys u' (by simpa using hu'), ?_⟩
  refine ⟨.int (ys.countP fun z => eqV z y : Nat), H, I.tok _, ⟨s.toks, ?_⟩, q⟩
  show Value.int ((its.toArray.toList.countP (eqU y) : Nat) : Int) s.toks = _
  rw [show its.toArray.toList = its from rfl, cnt_eq rv fys]
def onV : Option Int → V
  | some i => .int i
  | none => .non
theorem onV_flat : ∀ l : List (Option Int), (l.map onV).all flatV = true
  | [] => rfl
  | o :: l => by
    rw [List.map_cons, List.all_cons, onV_flat l]
    cases o <;> rfl
theorem onV_eq (o : Option Int) (i : Int) : eqV (onV o) (.int i) = decide (o = some i) := by
  cases o with
  | none => rfl
  | some j =>
    show eqV (.int j) (.int i) = _
    have e : eqV (.int j) (.int i) = (j == i) := rfl
    rw [e]
    by_cases h : j = i
    · subst h; simp
    · simp [h]
theorem ons_of {K : PySem.W.Frag} {p : List Addr} {F : Hp} {ca : Nat → Addr} : ∀ {l : List D} {vs : List V} {os : List (Option Int)}, RDs K ca p F l vs → mapO onOf l = some os → vs = os.map onV
  | [], vs, os, h, e => by
    have e1 : os = [] := (Option.some.inj (show (some [] : Option (List (Option Int))) = some os from e)).symm
    have e2 : vs = [] := h
    subst e1
    subst e2
    rfl
  | d :: l, vs, os, h, e => by
    obtain ⟨o, m, q, q2, e2⟩ := mapO_cons e
    subst e2
    obtain ⟨v, ws, rfl, h1, h2⟩ := h
    rw [List.map_cons, ← ons_of h2 q2]
    congr 1
    unfold onOf at q
    split at q
    · cases q; exact h1
    · cases q; exact h1
    · cases q
end
section
variable {P : Pg} {fns : Nat → Option Fn} {ca : Nat → Addr} {fa : Nat → Addr} {fdt : Nat → FuncData} {C : Cal} {k : Nat} {X : Cx} {N : List Str} {sc : Scope} {W : XK}
theorem s_cntS {a b : Ex} {a' b' : Expr} {ap cp : Pos} (h1 : noSuper a' = true) (h2 : (ap.endLine == cp.line) = true) (h3 : noStar b' = true) (ha : SE ca C X W a a') (hb : SE ca C X W b b') : SE ca C X W (.cntS a b) (.Call (.Attribute a' "count" ap) [b'] [] cp) := by
  refine PE.imp (pe_m1 F.slot_str_count F.type_str_count mt_count ha hb (noStar_ok h3 _ _) (noSuper_ok h1 _ _) h2) fun σ H Q h => ?_
  obtain ⟨p, F, G, r, M, sr, er, h⟩ := h
  refine ⟨p, F, G, r, M, sr, er, (Tk.bind (rel := RD X.K ca) h).mono fun v H1 ⟨p1, F1, x, M1, a1, b1, s1, r1, _, hh⟩ => ?_⟩
  cases q : stOf x with
  | none => simp only [q] at hh; exact hh.elim
  | some z =>
    simp only [q] at hh
    refine ⟨⟨z, stOf_ok r1 q⟩, p1, F1, G, r, M1, s1, er.sub a1 b1, (Tk.bind (rel := RD X.K ca) hh).mono fun w H2 ⟨p2, F2, y, M2, a2, b2, s2, r2, _, h2⟩ => ?_⟩
    unfold cntSV at h2
    cases q2 : stOf y with
    | none => simp only [q, q2] at h2; exact h2.elim
    | some u =>
      simp only [q, q2] at h2
      exact ⟨z, u, stOf_ok r1 q, by rw [stOf_ok r2 q2], Tk.ok h2 s2 rfl⟩
/-- a method of a list with one argument -/
theorem s_ml1 {f : D → D → Ar → Res D} {name : Str} {id : String} {r : V → List V → Hp → VK → Prop} {a b : Ex} {a' b' : Expr} {ap cp : Pos} (slot : Slot "list" name id) (hty : typeOf (.builtin id) = pure (.type "method_descriptor")) (hm : MtR X id r)
    (hr : ∀ {p F G M H x y v w Q}, SR X.K ca p F G M H → RD X.K ca p F x v → RD X.K ca p F y w → Tk X.K ca (RD X.K ca) W G p F (f x y M) Q → r v [w] H Q)
    (h1 : noSuper a' = true) (h2 : (ap.endLine == cp.line) = true) (h3 : noStar b' = true) (ha : SE ca C X W a a') (hb : SE ca C X W b b') :
    PE X (.Call (.Attribute a' name ap) [b'] [] cp) (TEo X.K ca W fun r M => (evE C a r M).bind fun x M => okIf (isLst M x) ((evE C b r M).bind fun y M => f x y M)) := by
  refine PE.imp (pe_bm PySem.F.plainAttrs_list slot hty hm ha (pa_cons hb pa_nil (noStar_ok h3 _ _)) (noSuper_ok h1 _ _) ?_ h2 (noStar_ok h3 _ _) rfl) fun σ H Q h => ?_
  · have e1 : (backTo cp (starEach [b'] X.env)).all (fun x => !x.1) = true := star_all (by simpa using h3)
    have e2 : backToKw cp (keywordEach [] X.env) = [] := rfl
    rw [e1, e2]
    rfl
  · obtain ⟨p, F, G, r, M, sr, er, h⟩ := h
    refine ⟨p, F, G, r, M, sr, er, (Tk.bind (rel := RD X.K ca) h).mono fun v H1 ⟨p1, F1, x, M1, a1, b1, s1, r1, _, h1⟩ => ?_⟩
    obtain ⟨z1, z2⟩ := Tk.okIf h1
    refine ⟨me_ty s1 r1 z1, p1, F1, G, r, M1, s1, er.sub a1 b1, (Tk.bind (rel := RD X.K ca) z2).mono fun w H2 ⟨p2, F2, y, M2, a2, b2, s2, r2, _, h2⟩ => ?_⟩
    exact hr s2 (RD.sub a2 b2 x v r1) r2 h2
theorem idxOf_le {x : Option Int} : ∀ {l : List (Option Int)} {m : Nat}, l[m]? = some x → l.idxOf x ≤ m
  | [], m, h => by cases h
  | y :: l, 0, h => by
    have e : y = x := Option.some.inj h
    subst e
    simp
  | y :: l, m + 1, h => by
    have := idxOf_le (l := l) (m := m) h
    rw [List.idxOf_cons]
    cases (y == x)
    · show l.idxOf x + 1 ≤ m + 1
      omega
    · exact Nat.zero_le _
theorem cntL_ok {p : List Addr} {F G : Hp} {M : Ar} {H : Hp} {x y : D} {v w : V} {Q : VK} (s : SR X.K ca p F G M H) (rx : RD X.K ca p F x v) (ry : RD X.K ca p F y w) (h : Tk X.K ca (RD X.K ca) W G p F (cntLV x y M) Q) : rCntL X.K v [w] H Q := by
  unfold cntLV at h
  cases q : lsOf M x with
  | none => simp only [q, Option.bind_none] at h; exact h.elim
  | some l =>
    cases q2 : mapO onOf l with
    | none => simp only [q, q2, Option.bind_some] at h; exact h.elim
    | some os =>
      simp only [q, q2, Option.bind_some] at h
      cases y with
      | t z =>
        cases z with
        | int i =>
          obtain ⟨b, vs, rfl, k1, k2⟩ := lsOf_ok s rx q
          rw [ons_of k2 q2] at k1
          cases ry
          refine ⟨b, os.map onV, .int i, rfl, rfl, SqL.of k1, rfl, onV_flat os, ?_⟩
          have e : (os.map onV).countP (fun z => eqV z (.int i)) = os.count (some i) := by
            rw [List.countP_map, List.count]
            congr 1
            funext o
            show eqV (onV o) (.int i) = _
            rw [onV_eq]
            by_cases e : o = some i
            · subst e; simp
            · rw [decide_eq_false e]; exact (beq_false_of_ne e).symm
          rw [e]
          exact Tk.ok h s rfl
        | _ => exact h.elim
      | _ => exact h.elim
theorem ixL_ok {p : List Addr} {F G : Hp} {M : Ar} {H : Hp} {x y : D} {v w : V} {Q : VK} (s : SR X.K ca p F G M H) (rx : RD X.K ca p F x v) (ry : RD X.K ca p F y w) (h : Tk X.K ca (RD X.K ca) W G p F (ixLV x y M) Q) : rIndex X.K v [w] H Q := by
  unfold ixLV at h
  cases q : lsOf M x with
  | none => simp only [q, Option.bind_none] at h; exact h.elim
  | some l =>
    cases q2 : mapO onOf l with
    | none => simp only [q, q2, Option.bind_some] at h; exact h.elim
    | some os =>
      simp only [q, q2, Option.bind_some] at h
      cases y with
      | t z =>
        cases z with
        | int i =>
          obtain ⟨z1, z2⟩ := Tk.okIf h
          have hm := of_decide_eq_true z1
          obtain ⟨b, vs, rfl, k1, k2⟩ := lsOf_ok s rx q
          rw [ons_of k2 q2] at k1
          cases ry
          have hlt : os.idxOf (some i) < os.length := List.idxOf_lt_length_of_mem hm
          refine ⟨b, os.map onV, .int i, os.idxOf (some i), .int i, rfl, rfl, SqL.of k1, rfl, onV_flat os, ?_, ?_, fun m z' hm' hz => ?_, Tk.ok z2 s rfl⟩
          · rw [List.getElem?_map, List.getElem?_eq_getElem hlt, List.getElem_idxOf]
            rfl
          · rw [show (V.int i) = onV (some i) from rfl, show eqV (onV (some i)) (onV (some i)) = eqV (onV (some i)) (.int i) from rfl, onV_eq]
            simp
          · rw [List.getElem?_map] at hz
            cases qo : os[m]? with
            | none => rw [qo] at hz; cases hz
            | some o =>
              rw [qo] at hz
              cases hz
              rw [onV_eq]
              refine decide_eq_false fun e => ?_
              subst e
              have hml := (List.getElem?_eq_some_iff.mp qo).1
              exact absurd (idxOf_le qo) (by omega)
        | _ => exact h.elim
      | _ => exact h.elim
theorem s_cntL {a b : Ex} {a' b' : Expr} {ap cp : Pos} (h1 : noSuper a' = true) (h2 : (ap.endLine == cp.line) = true) (h3 : noStar b' = true) (ha : SE ca C X W a a') (hb : SE ca C X W b b') : SE ca C X W (.cntL a b) (.Call (.Attribute a' "count" ap) [b'] [] cp) :=
  s_ml1 PySem.F.slot_list_count PySem.F.type_list_count mt_cntL (fun s rx ry h => cntL_ok s rx ry h) h1 h2 h3 ha hb
theorem s_ixL {a b : Ex} {a' b' : Expr} {ap cp : Pos} (h1 : noSuper a' = true) (h2 : (ap.endLine == cp.line) = true) (h3 : noStar b' = true) (ha : SE ca C X W a a') (hb : SE ca C X W b b') : SE ca C X W (.ixL a b) (.Call (.Attribute a' "index" ap) [b'] [] cp) :=
  s_ml1 PySem.F.slot_list_index PySem.F.type_list_index mt_index (fun s rx ry h => ixL_ok s rx ry h) h1 h2 h3 ha hb
abbrev leP (x y : Int × Int) : Prop := SrtO.lexB y x = false
theorem lexP_eq (p q : Int × Int) : lexP p q = SrtO.lexB p q := by
  unfold lexP SrtO.lexB
  by_cases h : p.1 = q.1
  · rw [if_pos h, h]; simp
  · rw [if_neg h]; simp [h]
theorem leP_trans {x y z : Int × Int} (h : leP x y) (k : leP y z) : leP x z := by
  have a := SrtO.lexB_no.mp h
  have b := SrtO.lexB_no.mp k
  refine SrtO.lexB_no.mpr ?_
  omega
theorem leP_anti {x y : Int × Int} (h : leP x y) (k : leP y x) : x = y := by
  have a := SrtO.lexB_no.mp h
  have b := SrtO.lexB_no.mp k
  obtain ⟨x1, x2⟩ := x
  obtain ⟨y1, y2⟩ := y
  simp only at a b
  have e1 : x1 = y1 := by omega
  have e2 : x2 = y2 := by omega
  rw [e1, e2]
theorem leP_of_lt {x y : Int × Int} (h : SrtO.lexB x y = true) : leP x y := by
  have a := SrtO.lexB_iff.mp h
  refine SrtO.lexB_no.mpr ?_
  omega
theorem insP_perm (x : Int × Int) : ∀ l, (insP x l).Perm (x :: l)
  | [] => List.Perm.refl _
  | y :: r => by
    unfold insP
    split
    · exact ((insP_perm x r).cons y).trans (List.Perm.swap x y r)
    · exact List.Perm.refl _
theorem sortP_perm : ∀ l, (sortP l).Perm l
  | [] => List.Perm.refl _
  | x :: r => (insP_perm x _).trans ((sortP_perm r).cons x)
theorem insP_sorted (x : Int × Int) : ∀ l : List (Int × Int), l.Pairwise leP → (insP x l).Pairwise leP
  | [], _ => by simp [insP]
  | y :: r, h => by
    unfold insP
    obtain ⟨h1, h2⟩ := List.pairwise_cons.mp h
    split
    · rename_i c
      rw [lexP_eq] at c
      refine List.pairwise_cons.mpr ⟨fun z hz => ?_, insP_sorted x r h2⟩
      rcases List.mem_cons.mp ((insP_perm x r).mem_iff.mp hz) with rfl | hz
      · exact leP_of_lt c
      · exact h1 z hz
    · rename_i c
      rw [lexP_eq] at c
      have c' : leP x y := by
        show SrtO.lexB y x = false
        simpa using c
      refine List.pairwise_cons.mpr ⟨fun z hz => ?_, h⟩
      rcases List.mem_cons.mp hz with rfl | hz
      · exact c'
      · exact leP_trans c' (h1 z hz)
theorem sortP_sorted : ∀ l, (sortP l).Pairwise leP
  | [] => List.Pairwise.nil
  | x :: r => insP_sorted x _ (sortP_sorted r)
theorem sortP_uniq : ∀ {l m : List (Int × Int)}, l.Perm m → l.Pairwise leP → m.Pairwise leP → l = m
  | [], m, h, _, _ => (List.Perm.nil_eq h)
  | x :: l, [], h, _, _ => absurd h.length_eq (by simp)
  | x :: l, y :: m, h, h1, h2 => by
    obtain ⟨a1, a2⟩ := List.pairwise_cons.mp h1
    obtain ⟨b1, b2⟩ := List.pairwise_cons.mp h2
    have hx : x ∈ y :: m := h.mem_iff.mp List.mem_cons_self
    have hy : y ∈ x :: l := h.mem_iff.mpr List.mem_cons_self
    have e : x = y := by
      rcases List.mem_cons.mp hx with hx | hx
      · exact hx
      · rcases List.mem_cons.mp hy with hy | hy
        · exact hy.symm
        · exact leP_anti (a1 y hy) (b1 x hx)
    subst e
    rw [sortP_uniq h.cons_inv a2 b2]
theorem itsI_ok {K : PySem.W.Frag} {p : List Addr} {F : Hp} : ∀ {l : List (Key × D)} {kvs : List (Key × V)} {ps : List (Int × Int)}, PrD K ca p F l kvs → mapO itI l = some ps → kvs = ps.map Si.pI
  | _, _, ps, .nil, e => by
    have e1 : ps = [] := (Option.some.inj (show (some [] : Option (List (Int × Int))) = some ps from e)).symm
    subst e1; rfl
  | _, _, ps, .cons (a := x) (b := y) h t, e => by
    obtain ⟨i, m, q, q2, e2⟩ := mapO_cons e
    subst e2
    rw [List.map_cons, ← itsI_ok t q2]
    congr 1
    unfold itI at q
    split at q
    · cases q
      obtain ⟨h1, h2⟩ := h
      obtain ⟨y1, y2⟩ := y
      have h1' : Sum.inl _ = y1 := h1
      subst h1'
      have h2' : y2 = V.int _ := h2
      subst h2'
      rfl
    · cases q
theorem allT_of : ∀ ts : List T, allT (ts.map D.t) = some ts
  | [] => rfl
  | t :: ts => by
    rw [List.map_cons]
    unfold allT
    rw [allT_of ts]
theorem frzL_of (ts : List T) : frzL (ts.map D.t) = .t (.lst ts) := by
  unfold frzL
  rw [allT_of]
theorem zip_prs : ∀ js : List (Int × Int), (js.map fun q => V.int q.1).zip (js.map fun q => V.int q.2) = js.map fun q => (V.int q.1, V.int q.2)
  | [] => rfl
  | q :: js => by rw [List.map_cons, List.map_cons, List.zip_cons_cons, zip_prs js]; rfl
theorem zipL_prs : ∀ js : List (Int × Int), zipL (js.map fun q => D.t (.int q.1)) (js.map fun q => D.t (.int q.2)) = js.map fun q => D.t (pr2T q)
  | [] => rfl
  | q :: js => by
    show frzT [D.t (.int q.1), D.t (.int q.2)] :: zipL (js.map fun q => D.t (.int q.1)) (js.map fun q => D.t (.int q.2)) = _
    rw [zipL_prs js]
    rfl
theorem s_srtI (g : Good P fns ca fa fdt C k X N sc W) {a : Ex} {a' : Expr} {p1 ap cp pos : Pos} (h1 : glB sc "sorted" = true) (h2 : noSuper a' = true) (h3 : (ap.endLine == cp.line) = true) (ha : SE ca C X W a a') : SE ca C X W (.srtI a) (.Call (.Name "sorted" p1) [.Call (.Attribute a' "items" ap) [] [] cp] [] pos) := by
  obtain ⟨g1, g2, g3⟩ := g.gl h1
  refine PE.imp (pe_callB (Si.cr_srtI g.calm) g1 (g.fx.free "sorted" (by decide)) (by decide +kernel) (pa_cons (pe_bm0 PySem.F.plainAttrs_dict PySem.F.slot_dict_items PySem.F.type_dict_items Si.mt_itK ha (noSuper_ok h2 _ _) h3) pa_nil rfl) g3 g2 rfl rfl) fun σ H Q h => ?_
  obtain ⟨p, F, G, r, M, sr, er, h⟩ := h
  refine ⟨p, F, G, r, M, sr, er, (Tk.bind (rel := RD X.K ca) h).mono fun v H1 ⟨p1, F1, x, M1, a1, b1, s1, r1, _, hh⟩ => ?_⟩
  unfold srtIV at hh
  cases x with
  | ref i =>
    simp only at hh
    cases q : M1[i]? with
    | none => simp only [q] at hh; exact hh.elim
    | some o =>
      cases o with
      | dK l =>
        simp only [q] at hh
        cases q2 : mapO itI l with
        | none => simp only [q2] at hh; exact hh.elim
        | some ps =>
          simp only [q2] at hh
          obtain ⟨ad, h4, rfl⟩ := r1
          obtain ⟨kvs, k1, k2⟩ := s1.ob i ad _ h4 q
          have ek := itsI_ok k2 q2
          subst ek
          refine ⟨.inr (.inr (.inl ⟨rfl, .inl ⟨_, k1⟩⟩)), ad, _, rfl, rfl, .inl k1, fun vp hvp => ?_⟩
          have s2 := s1.grow (upd_grow (o := L2.DX.itemsO vp ad) hvp)
          have k3 : upd H1 vp (L2.DX.itemsO vp ad) ad = some (.dK (ps.map Si.pI)) := by
            rw [upd_ne (fun e => by rw [e, hvp] at k1; cases k1)]
            exact k1
          refine ⟨vp, ad, ps, rfl, upd_same, .inl k3, fun lp ts js j1 j2 n1 n2 n3 n4 n5 => ?_⟩
          have ej : js = sortP ps := sortP_uniq (j1.trans (sortP_perm ps).symm) j2 (sortP_sorted ps)
          subst ej
          obtain ⟨F', f1, f2, f3⟩ := zlay_ok (ts := ts) s2 (intsF_RDs (fun q : Int × Int => q.1) (sortP ps)) (intsF_RDs (fun q : Int × Int => q.2) (sortP ps)) n2 n4 (by rw [n5]; simp)
          rw [zip_prs] at f2
          rw [zipL_prs] at f3
          have np : Zl.layT (upd H1 vp (L2.DX.itemsO vp ad)) ts ((sortP ps).map fun q => (V.int q.1, V.int q.2)) lp = none := by rw [Zl.layT_ne n3]; exact n1
          obtain ⟨w1, w2⟩ := f2.newF (o := .lst (ts.map V.ref)) np
          have e5 : D.t (.lst ((sortP ps).map pr2T)) = frzL ((sortP ps).map fun q => D.t (pr2T q)) := by
            rw [show ((sortP ps).map fun q => D.t (pr2T q)) = ((sortP ps).map pr2T).map D.t by rw [List.map_map]; rfl, frzL_of]
          rw [e5] at hh
          exact hh _ _ _ _ (Pre.refl _) (f1.trans w1) w2 (RDs.frzL (RDs.sub (Pre.refl _) w1 _ _ f3) upd_same)
      | _ => simp only [q] at hh; exact hh.elim
  | _ => exact hh.elim
end
end Rw
end
section
set_option Elab.async false
set_option linter.all false
set_option maxRecDepth 100000
namespace Rw.Tq
open PySem PySem.Spec PyProof.Rows L2
/-- a mask of which each slot is come to from each -/
structure MG (m : Nat) : Prop where
  odd : m % 2 = 1
  top : m ≤ 511
  ms : m = 7 ∨ m = 31 ∨ m = 127 ∨ m = 511
  rd : ∀ i j : Nat, i ≤ m → j ≤ m → ∃ k : Nat, k ≤ m ∧ lcgI m i k = j
theorem mg_of {m : Nat} (h : MaskOk m) : MG m := ⟨mask_odd h, by rcases h with e | e | e <;> omega, by rcases h with e | e | e <;> omega, fun _ _ a b => lcgI_all h a b⟩
def orb : Nat → Nat → List Nat
  | 0, _ => []
  | n + 1, x => x :: orb n ((x * 5 + 1) % 512)
theorem lcgI_front (m i : Nat) : ∀ k, lcgI m i (k + 1) = lcgI m ((i * 5 + 1) % (m + 1)) k
  | 0 => rfl
  | k + 1 => by
    have e := lcgI_front m i k
    show (lcgI m i (k + 1) * 5 + 1) % (m + 1) = (lcgI m ((i * 5 + 1) % (m + 1)) k * 5 + 1) % (m + 1)
    rw [e]
theorem orb_mem {j : Nat} : ∀ (n x : Nat), j ∈ orb n x → ∃ k, k < n ∧ lcgI 511 x k = j
  | 0, x, h => nomatch h
  | n + 1, x, h => by
    rcases List.mem_cons.mp h with h | h
    · exact ⟨0, Nat.succ_pos _, h.symm⟩
    · obtain ⟨k, hk, e⟩ := orb_mem n _ h
      exact ⟨k + 1, Nat.succ_lt_succ hk, (lcgI_front 511 x k).trans e⟩
theorem orb_all : ((List.range 512).all fun j => (orb 512 0).contains j) = true := by decide +kernel
theorem orb_back : lcgI 511 0 512 = 0 := by decide +kernel
theorem lcgI_plus (m i a : Nat) : ∀ k, lcgI m (lcgI m i a) k = lcgI m i (a + k)
  | 0 => rfl
  | k + 1 => by
    show (lcgI m (lcgI m i a) k * 5 + 1) % (m + 1) = (lcgI m i (a + k) * 5 + 1) % (m + 1)
    rw [lcgI_plus m i a k]
theorem orb_any {j : Nat} (hj : j ≤ 511) : ∃ k, k < 512 ∧ lcgI 511 0 k = j := by
  have h := List.all_eq_true.mp orb_all j (List.mem_range.mpr (by omega))
  exact orb_mem 512 0 (List.contains_iff_mem.mp h)
theorem mg511 : MG 511 := ⟨by decide, Nat.le_refl _, .inr (.inr (.inr rfl)), fun i j hi hj => by
  obtain ⟨a, ha, ea⟩ := orb_any hi
  obtain ⟨b, hb, eb⟩ := orb_any hj
  subst ea
  by_cases c : a ≤ b
  · refine ⟨b - a, by omega, ?_⟩
    rw [lcgI_plus, show a + (b - a) = b by omega]
    exact eb
  · refine ⟨512 - a + b, by omega, ?_⟩
    rw [lcgI_plus, show a + (512 - a + b) = 512 + b by omega, ← lcgI_plus, orb_back]
    exact eb⟩
/-- the slot of the k-th look -/
abbrev wy (m : Nat) (h : Int) (k : Nat) : Nat := way m h k
theorem runs_to {m : Nat} (g : MG m) (h : Int) {j : Nat} (hj : j ≤ m) : ∃ n, n ≤ m + 12 ∧ runI m (SetTable.bits h) n = j := by
  obtain ⟨k, hk, e⟩ := g.rd _ j (runI_le m (SetTable.bits h) 12) hj
  exact ⟨12 + k, by omega, (runI_tail (bits_lt h) k).trans e⟩
theorem wy_all {m : Nat} (g : MG m) (h : Int) {j : Nat} (hj : j ≤ m) : ∃ k, k < 10 * SetTable.turns m ∧ wy m h k = j := by
  obtain ⟨n, hn, e⟩ := runs_to g h hj
  obtain ⟨k, hk, q⟩ := run_nth m (SetTable.bits h) n
  exact ⟨k, by unfold SetTable.turns; omega, (congrArg SetTable.Probe.j q).trans e⟩
theorem wy_in {m : Nat} (h : Int) (k : Nat) : wy m h k ≤ m := by
  have b := runEnd_bd (m := m) (i := SetTable.bits h % (m + 1)) (Nat.lt_succ_iff.mp (Nat.mod_lt _ (Nat.succ_pos _)))
  have z := nth_in (m := m) k (runAt m (SetTable.bits h % (m + 1)) (SetTable.bits h)) (by
    have ej : (runAt m (SetTable.bits h % (m + 1)) (SetTable.bits h)).j = SetTable.bits h % (m + 1) := rfl
    have em : (runAt m (SetTable.bits h % (m + 1)) (SetTable.bits h)).more = SetTable.runEnd m (SetTable.bits h % (m + 1)) - SetTable.bits h % (m + 1) := rfl
    omega)
  exact Nat.le_trans (Nat.le_add_right _ _) z
/-- all slots are found again by their hashes -/
structure TG (t : SetTable) (hs : List Int) : Prop where
  ris : Ris t.place.toList
  dm : t.dummies = #[]
  sz : t.place.size = hs.length
  mg : MG t.mask
  bd : ∀ x : Nat, x ∈ t.place.toList → x ≤ t.mask
  rch : ∀ (i : Nat) (h : Int) (j : Nat), hs[i]? = some h → t.place.toList[i]? = some j → ∃ k, wy t.mask h k = j ∧ ∀ c : Nat, c < k → wy t.mask h c ∈ t.place.toList
section
variable {t : SetTable} {hs : List Int}
theorem TG.gap (T : TG t hs) (hl : hs.length ≤ t.mask) (h : Int) : ∃ K, K < 10 * SetTable.turns t.mask ∧ wy t.mask h K ∉ t.place.toList ∧ ∀ k : Nat, k < K → wy t.mask h k ∈ t.place.toList := by
  obtain ⟨j, hj, hn⟩ := st_missing t.place.toList (t.mask + 1) (by rw [Array.length_toList, T.sz]; omega)
  obtain ⟨k, hk, e⟩ := wy_all T.mg h (Nat.lt_succ_iff.mp hj)
  obtain ⟨K, a, b, c⟩ := st_least (p := fun k => wy t.mask h k ∉ t.place.toList) k (fun z => hn (e ▸ z))
  exact ⟨K, by omega, b, fun k' h' => Classical.not_not.mp (c k' h')⟩
theorem TG.ahead (T : TG t hs) {h : Int} {K i j : Nat} (hK : wy t.mask h K ∉ t.place.toList) (hi : hs[i]? = some h) (hj : t.place.toList[i]? = some j) : ∃ k, k < K ∧ wy t.mask h k = j := by
  obtain ⟨k, e, q⟩ := T.rch i h j hi hj
  refine ⟨k, Classical.byContradiction fun c => ?_, e⟩
  by_cases d : K = k
  · exact hK (d ▸ e ▸ List.mem_of_getElem? hj)
  · exact hK (q K (by omega))
theorem TG.ins (T : TG t hs) {h : Int} {K : Nat} (hK : wy t.mask h K ∉ t.place.toList) (hb : ∀ k : Nat, k < K → wy t.mask h k ∈ t.place.toList) {p : Nat} (hp : p = SetTable.below t.place (wy t.mask h K)) :
    (t.put (wy t.mask h K)).2 = p ∧ p ≤ hs.length ∧ TG (t.put (wy t.mask h K)).1 (hs.take p ++ h :: hs.drop p) ∧ (t.put (wy t.mask h K)).1.mask = t.mask ∧ (t.put (wy t.mask h K)).1.led = t.led ∧ (t.put (wy t.mask h K)).1.plain = t.plain ∧ (t.put (wy t.mask h K)).1.fill = hs.length + 1 := by
  have jm : wy t.mask h K ≤ t.mask := wy_in h K
  obtain ⟨j, ej⟩ : ∃ j, wy t.mask h K = j := ⟨_, rfl⟩
  rw [ej] at hK jm hp ⊢
  have pl := put_place t j
  rw [← hp] at pl
  have cut : p ≤ t.place.size := hp ▸ (below_cut T.ris j).1
  have c1 : p ≤ t.place.toList.length := by rw [Array.length_toList]; exact cut
  have c2 : p ≤ hs.length := T.sz ▸ cut
  have nw : t.place[SetTable.below t.place j]? ≠ some j := fun e => hK (List.mem_of_getElem? (by rw [Array.getElem?_toList]; exact e))
  have sz : (t.put j).1.place.size = hs.length + 1 := by
    rw [← Array.length_toList, pl, len_ins _ c1, Array.length_toList, T.sz]
  have up : ∀ {x : Nat}, x ∈ t.place.toList → x ∈ (t.put j).1.place.toList := fun hx => pl ▸ mem_ins.mpr (.inr hx)
  refine ⟨hp.symm, c2, ?_, rfl, rfl, rfl, ?_⟩
  · refine ⟨ris_insert T.ris nw, put_dm T.dm j, by rw [sz, len_ins _ c2], T.mg, fun x hx => ?_, fun i g y e1 e2 => ?_⟩
    · rw [pl] at hx
      rcases mem_ins.mp hx with e | z
      · exact e ▸ jm
      · exact T.bd x z
    · rw [tins_get hs c2] at e1
      rw [pl, tins_get _ c1] at e2
      by_cases d : i = p
      · rw [if_neg (by omega), if_pos d] at e1 e2
        cases e1
        cases e2
        exact ⟨K, ej, fun c hc => up (hb c hc)⟩
      · have old : ∃ i' : Nat, hs[i']? = some g ∧ t.place.toList[i']? = some y := by
          by_cases c : i < p
          · rw [if_pos c] at e1 e2
            exact ⟨i, e1, e2⟩
          · rw [if_neg c, if_neg d] at e1 e2
            exact ⟨i - 1, e1, e2⟩
        obtain ⟨i', a, b⟩ := old
        obtain ⟨k, q1, q2⟩ := T.rch i' g y a b
        exact ⟨k, q1, fun c hc => up (q2 c hc)⟩
  · show (t.put j).1.place.size + (t.put j).1.dummies.size = _
    rw [sz, put_dm T.dm j]
    rfl
end
theorem free_at {m : Nat} (g : MG m) (ow : Array (Option Nat)) (h : Int) {j : Nat} (hj : j ≤ m) (hf : oAt ow j = none) :
    ∃ K, SetTable.layClean.free m ow (SetTable.turns m) (SetTable.bits h % (m + 1)) (SetTable.bits h) = some (wy m h K) ∧ oAt ow (wy m h K) = none ∧ ∀ c : Nat, c < K → oAt ow (wy m h c) ≠ none := by
  obtain ⟨n, hn, e⟩ := runs_to g h hj
  have z : wy m h (off m (SetTable.bits h % (m + 1)) (SetTable.bits h) n) = j := by
    show (nth m _ (off m _ _ n)).j = j
    rw [nth_off, itL_run]
    exact e
  obtain ⟨K, a, b, c⟩ := st_least (p := fun k => oAt ow (wy m h k) = none) _ (z ▸ hf)
  refine ⟨K, free_spec m ow _ n _ _ K (by unfold SetTable.turns; omega) a (fun k hk => ?_) (Option.isNone_iff_eq_none.mpr b), b, c⟩
  exact Bool.eq_false_iff.mpr fun q => c k hk (Option.isNone_iff_eq_none.mp q)
structure OwnG (m : Nat) (dn : List Int) (ow : Array (Option Nat)) : Prop where
  sz : ow.size = m + 1
  fr : ∀ j k : Nat, j ≤ m → oAt ow j = some k → ∃ h K, dn[k]? = some h ∧ wy m h K = j ∧ ∀ c : Nat, c < K → oAt ow (wy m h c) ≠ none
  to : ∀ k : Nat, k < dn.length → ∃ j, j ≤ m ∧ oAt ow j = some k
  ps : ∃ ps : List Nat, ps.length = dn.length ∧ ∀ j : Nat, j ≤ m → oAt ow j ≠ none → j ∈ ps
theorem OwnG.next {m : Nat} (g : MG m) {dn : List Int} {ow : Array (Option Nat)} (W : OwnG m dn ow) (hl : dn.length ≤ m) (h : Int) :
    ∃ j, SetTable.layClean.free m ow (SetTable.turns m) (SetTable.bits h % (m + 1)) (SetTable.bits h) = some j ∧ OwnG m (dn ++ [h]) (ow.setIfInBounds j (some dn.length)) := by
  obtain ⟨ps, p1, p2⟩ := W.ps
  obtain ⟨j0, a0, b0⟩ := st_missing ps (m + 1) (by omega)
  have f0 : oAt ow j0 = none := Classical.byContradiction fun z => b0 (p2 j0 (by omega) z)
  obtain ⟨K, k1, k2, k3⟩ := free_at g ow h (by omega : j0 ≤ m) f0
  have jm : wy m h K ≤ m := wy_in h K
  generalize hj : wy m h K = j at k1 k2 jm
  have self := oAt_set_self (j := j) (owner := ow) (some dn.length) (by rw [W.sz]; omega)
  have stay : ∀ {i : Nat}, oAt ow i ≠ none → oAt (ow.setIfInBounds j (some dn.length)) i ≠ none := fun {i} hi => by
    by_cases c : i = j
    · rw [c, self]; simp
    · rwa [oAt_set_ne _ c]
  refine ⟨j, k1, ⟨(Array.size_setIfInBounds ..).trans W.sz, fun i k hi e => ?_, fun k hk => ?_, ⟨j :: ps, by simp [p1], fun i hi e => ?_⟩⟩⟩
  · by_cases c : i = j
    · subst c
      rw [self] at e
      cases e
      exact ⟨h, K, by simp, hj, fun c hc => stay (k3 c hc)⟩
    · rw [oAt_set_ne _ c] at e
      obtain ⟨h', K', q1, q2, q3⟩ := W.fr i k hi e
      have := (List.getElem?_eq_some_iff.mp q1).1
      exact ⟨h', K', by rw [List.getElem?_append_left this]; exact q1, q2, fun c hc => stay (q3 c hc)⟩
  · rw [List.length_append, List.length_singleton] at hk
    by_cases c : k = dn.length
    · exact ⟨j, jm, c ▸ self⟩
    · obtain ⟨i, hi, e⟩ := W.to k (by omega)
      exact ⟨i, hi, by rw [oAt_set_ne _ (fun z => by rw [z, k2] at e; cases e)]; exact e⟩
  · by_cases c : i = j
    · rw [c]; exact List.mem_cons_self
    · rw [oAt_set_ne _ c] at e
      exact List.mem_cons_of_mem _ (p2 i hi e)
theorem laid_fold {m : Nat} (g : MG m) : ∀ (r dn : List Int) (ow : Array (Option Nat)), OwnG m dn ow → dn.length + r.length ≤ m →
    ∃ o2, r.foldl (stepF m) (some (ow, dn.length)) = some (o2, (dn ++ r).length) ∧ OwnG m (dn ++ r) o2
  | [], dn, ow, W, _ => ⟨ow, by simp, by simpa using W⟩
  | h :: r, dn, ow, W, hl => by
    rw [List.length_cons] at hl
    obtain ⟨j, e, W1⟩ := W.next g (by omega) h
    obtain ⟨o2, q, W2⟩ := laid_fold g r (dn ++ [h]) _ W1 (by simp; omega)
    have ec : dn ++ h :: r = dn ++ [h] ++ r := by simp
    have en : (dn ++ [h]).length = dn.length + 1 := by simp
    rw [en] at q
    exact ⟨o2, by rw [List.foldl_cons, stepF_some e, q, ec], ec ▸ W2⟩
theorem own_zero (m : Nat) : OwnG m [] (Array.replicate (m + 1) none) := { sz := by simp, fr := fun j k hj e => (by rw [oAt_init hj] at e; cases e), to := fun k hk => absurd hk (Nat.not_lt_zero _), ps := ⟨[], rfl, fun j hj e => absurd (oAt_init hj) e⟩ }
theorem lay_clean {m : Nat} (g : MG m) {hs : Array Int} (hn : hs.size ≤ m) : ∃ ow, SetTable.layClean m hs = some ow ∧ OwnG m hs.toList ow := by
  obtain ⟨ow, q, W⟩ := laid_fold g hs.toList [] _ (own_zero m) (by simpa using hn)
  refine ⟨ow, ?_, by simpa using W⟩
  rw [layClean_eq]
  show (List.foldl _ (some (_, ([] : List Int).length)) _).map _ = _
  rw [q]
  rfl
theorem laid_anew (t : SetTable) {hs : Array Int} {wanted m : Nat} (hw : SetTable.sizeAbove wanted - 1 = m) (g : MG m) (hn : hs.size ≤ m) :
    ∃ t2 od, t.relaid hs wanted = some (t2, od) ∧ od.toList.Perm (List.range hs.size) ∧ TG t2 (od.toList.map fun i => hs.getD i 0) ∧ t2.mask = m ∧ t2.led = t.led ∧ t2.plain = t.plain ∧ t2.dummies = #[] := by
  obtain ⟨ow, e, W⟩ := lay_clean g hn
  have rr := ris_live (fun j => ow.getD j none) (List.range (m + 1)) List.pairwise_lt_range
  have r1 : Ris ((liveOf m ow).map (·.1)) := rr.1
  have lv : ∀ {j k : Nat}, (j, k) ∈ liveOf m ow ↔ j ≤ m ∧ oAt ow j = some k := mem_live W.sz
  have len : (liveOf m ow).length = hs.size := by
    obtain ⟨ps, p1, p2⟩ := W.ps
    have n1 : ((liveOf m ow).map (·.1)).Nodup := List.Pairwise.imp (fun q => Nat.ne_of_lt q) r1
    have up := nat_nodup_len ((liveOf m ow).map (·.1)) ps n1 fun x hx => by
      obtain ⟨⟨y, k⟩, hq, rfl⟩ := List.mem_map.mp hx
      have := lv.mp hq
      exact p2 y this.1 (by rw [this.2]; simp)
    have dn := nat_nodup_len (List.range hs.size) ((liveOf m ow).map (·.2)) List.nodup_range fun k hk => by
      obtain ⟨j, q⟩ := W.to k (by simpa using hk)
      exact List.mem_map.mpr ⟨(j, k), lv.mpr q, rfl⟩
    simp only [List.length_map, List.length_range, p1, Array.length_toList] at up dn
    omega
  refine ⟨tabOf t m ow, ((liveOf m ow).map (·.2)).toArray, by rw [relaid_eq, hw, e]; rfl, ?_, ⟨r1, rfl, ?_, g, fun x hx => ?_, fun i h j e1 e2 => ?_⟩, rfl, rfl, rfl, rfl⟩
  · refine perm_range hs.size _ (by simpa using len) fun k hk => ?_
    obtain ⟨j, q⟩ := W.to k (by simpa using hk)
    exact List.mem_map.mpr ⟨(j, k), lv.mpr q, rfl⟩
  · show ((liveOf m ow).map (·.1)).toArray.size = _
    simp
  · obtain ⟨⟨y, k⟩, hq, rfl⟩ := List.mem_map.mp (show x ∈ (liveOf m ow).map (·.1) from hx)
    exact (lv.mp hq).1
  · replace e1 : (((liveOf m ow).map (·.2)).map fun i => hs.getD i 0)[i]? = some h := e1
    replace e2 : ((liveOf m ow).map (·.1))[i]? = some j := e2
    rw [List.getElem?_map, List.getElem?_map] at e1
    rw [List.getElem?_map] at e2
    cases hq : (liveOf m ow)[i]? with
    | none => rw [hq] at e2; cases e2
    | some q =>
      obtain ⟨y, k⟩ := q
      rw [hq] at e1 e2
      cases e2
      obtain ⟨b1, b2⟩ := lv.mp (List.mem_of_getElem? hq)
      obtain ⟨g0, K, a1, a2, a3⟩ := W.fr y k b1 b2
      have eg : hs.getD k 0 = g0 := by
        rw [Array.getD_eq_getD_getElem?, ← Array.getElem?_toList, a1]
        rfl
      have eh : g0 = h := eg.symm.trans (Option.some.inj e1)
      subst eh
      refine ⟨K, a2, fun c hc => ?_⟩
      cases z : oAt ow (wy m g0 c) with
      | none => exact absurd z (a3 c hc)
      | some k2 => exact List.mem_map.mpr ⟨(_, k2), lv.mpr ⟨wy_in g0 c, z⟩, rfl⟩
end Rw.Tq
end
section
set_option Elab.async false
set_option linter.all false
set_option maxRecDepth 100000
namespace Rw.Tq
open PySem PySem.Spec PyProof.Rows L2
abbrev p0 (t : SetTable) (h : Int) : SetTable.Probe := runAt t.mask (SetTable.bits h % (t.mask + 1)) (SetTable.bits h)
/-- the set at a: its tuples' places and ints, in the table's order -/
structure SG (P : Program) (w : World) (h : Heap) (a : Addr) (L : List (Addr × List Int)) (es : Array (Int × Value)) (ep : Nat) (t : SetTable) : Prop where
  ob : ∃ o : Obj, h.get? a = some o ∧ o.ExactSet ∧ o.data = .set es ep t
  rw' : es.toList = rowsOf P w L
  tg : TG t (L.map fun q => thash P w q.2)
  nd : (L.map (·.2)).Nodup
  it : ∀ q : Addr × List Int, q ∈ L → IsT P w h q.2 q.1
  pl : t.plain = true
  ld : w.params.followText "set-order" = true ∨ t.led = true
  rm : L.length * 5 < t.mask * 3
  fw : L.length ≤ 300
section
variable {P : Program} {w : World} {A : Around} {E : Value → Shared → Prop} {s : Shared} {a : Addr} {L : List (Addr × List Int)} {es : Array (Int × Value)} {ep : Nat} {t : SetTable}
theorem rows_len {L : List (Addr × List Int)} {es : Array (Int × Value)} (h : es.toList = rowsOf P w L) : es.size = L.length := by
  rw [← Array.length_toList, h]
  exact List.length_map _
theorem SG.fit (R : SG P w s.heap a L es ep t) : t.fits es.size = true := by
  have h1 : t.place.size = L.length := by rw [R.tg.sz, List.length_map]
  have h2 := rows_len R.rw'
  have h3 := R.rm
  have h4 : t.fill = L.length := by
    show t.place.size + t.dummies.size = _
    rw [h1, R.tg.dm]; rfl
  unfold SetTable.fits
  simp only [Bool.and_eq_true, beq_iff_eq, decide_eq_true_eq]
  omega
theorem SG.ent (R : SG P w s.heap a L es ep t) {i : Nat} {q : Addr × List Int} (h : L[i]? = some q) : es[i]? = some (thash P w q.2, Value.ref q.1) := by
  rw [← Array.getElem?_toList, R.rw', rowsOf, List.getElem?_map, h]
  rfl
theorem nth_dummy (m : Nat) : ∀ (n : Nat) (p : SetTable.Probe), p.dummy = none → (nth m p n).dummy = none
  | 0, _, h => h
  | n + 1, p, h => nth_dummy m n (adv m p) (by unfold adv; split <;> exact h)
/-- the search, from its c-th look on -/
theorem seek (R : SG P w s.heap a L es ep t) {x : Addr} {k : List Int} (hx : IsT P w s.heap k x) (hu : A.units < cLine) {K : Nat} (hf : K < 10 * SetTable.turns t.mask)
    (gap : wy t.mask (thash P w k) K ∉ t.place.toList) (full : ∀ c : Nat, c < K → wy t.mask (thash P w k) c ∈ t.place.toList) {Q : SetFound → Shared → Prop}
    (qin : k ∈ L.map (·.2) → Q (.there none) s) (qout : k ∉ L.map (·.2) → Q (.free (wy t.mask (thash P w k) K) false) s) :
    ∀ (f c : Nat) (st : Option SetTable.Probe), st.getD (t.probeStart (thash P w k)) = nth t.mask (p0 t (thash P w k)) c → c ≤ K → K - c < f →
      (∀ (i : Nat) (q : Addr × List Int), L[i]? = some q → q.2 = k → ∃ d : Nat, c ≤ d ∧ d < K ∧ t.place.toList[i]? = some (wy t.mask (thash P w k) d)) →
      wpAny (model P w) A (setSearchFrom a (.ref x) (thash P w k) true f st) Q E s
  | 0, c, st, _, _, z, _ => absurd z (Nat.not_lt_zero _)
  | f + 1, c, st, hst, hc, hcf, hre => by
    obtain ⟨o, ho, _, hd⟩ := R.ob
    have gw : ¬ t.gaveWay = true := by
      unfold SetTable.gaveWay
      rw [R.tg.mg.odd]
      decide
    rw [setSearchFrom_succ]
    refine wpAny_bind (wpAny_setState_of ho hd R.fit ?_)
    dsimp only
    refine wp_if_neg gw ?_
    try refine wpAny_bind (wpAny_pure ?_)
    have cadd : ∀ d : Nat, nth t.mask (nth t.mask (p0 t (thash P w k)) c) d = nth t.mask (p0 t (thash P w k)) (c + d) := fun d => (nth_add t.mask c _ d).symm
    have cj : ∀ d : Nat, (nth t.mask (nth t.mask (p0 t (thash P w k)) c) d).j = wy t.mask (thash P w k) (c + d) := fun d => by rw [cadd d]
    have hat : ∀ (i : Nat) (q : Addr × List Int), L[i]? = some q → (fun i : Nat => (es[i]?.map (·.1)).getD 0) i = thash P w q.2 := fun i q hq => by
      simp only [R.ent hq]
      rfl
    rcases go_spec t R.tg.ris R.tg.dm (fun i : Nat => (es[i]?.map (·.1)).getD 0) (thash P w k) (10 * SetTable.turns t.mask) (K - c) (nth t.mask (p0 t (thash P w k)) c) (nth_dummy _ c _ rfl) (by omega)
      (fun d hd => by rw [cj]; exact full _ (by omega)) (by rw [cj, show c + (K - c) = K by omega]; exact gap) with ⟨d, i, d1, d2, d3, d4, d5⟩ | ⟨d1, d2⟩
    · rw [cj] at d2
      have pr : t.probe (fun i => (es[i]?.map (·.1)).getD 0) (thash P w k) (st.getD (t.probeStart (thash P w k))) = some (.candidate (wy t.mask (thash P w k) (c + d)) i (nth t.mask (p0 t (thash P w k)) (c + (d + 1)))) := by
        rw [hst, ← cj, ← cadd]
        exact d5
      rw [pr]
      dsimp only
      have il : i < L.length := by
        have z1 := (List.getElem?_eq_some_iff.mp d2).1
        have z2 := R.tg.sz
        rw [List.length_map] at z2
        rw [Array.length_toList] at z1
        omega
      obtain ⟨q, hq⟩ : ∃ q, L[i]? = some q := ⟨_, List.getElem?_eq_getElem il⟩
      have qm := List.mem_of_getElem? hq
      have live := slot_live R.tg.ris d2
      have go : wpAny (model P w) A (searchRest a (.ref x) (thash P w k) true f es t (wy t.mask (thash P w k) (c + d)) i (nth t.mask (p0 t (thash P w k)) (c + (d + 1)))) Q E s := by
        unfold searchRest
        rw [R.ent hq]
        dsimp only
        refine wpAny_bind (wpAny_holding (wpAny_eqBool_tuple hu (R.it q qm) hx (wpAny_bind (wpAny_setState_of ho hd R.fit ?_))))
        dsimp only
        by_cases e : q.2 = k
        · refine wp_if_pos (by simp [e]) (wpAny_pure (qin (List.mem_map.mpr ⟨q, qm, e⟩)))
        · refine wp_if_neg (by simp [e]) ?_
          try refine wpAny_bind (wpAny_pure ?_)
          rw [L2.sameMem]
          simp only [if_true, live, R.ent hq]
          refine wpAny_bind (wpAny_isSame_ref_self (wpAny_bind (wpAny_pure ?_)))
          simp only [if_true]
          refine wp_if_neg (by simp [e]) (seek R hx hu hf gap full qin qout f (c + (d + 1)) _ rfl (by omega) (by omega) fun i2 q2 h2 k2 => ?_)
          obtain ⟨d', b1, b2, b3⟩ := hre i2 q2 h2 k2
          refine ⟨d', Classical.byContradiction fun z => ?_, b2, b3⟩
          by_cases y : d' = c + d
          · subst y
            have l2 := slot_live R.tg.ris b3
            rw [live] at l2
            cases l2
            rw [hq] at h2
            cases h2
            exact e k2
          · exact d4 (d' - c) i2 (by omega) (by rw [cj, show c + (d' - c) = d' by omega]; exact b3) ((hat i2 q2 h2).trans (congrArg (thash P w) k2))
      by_cases hl : t.led = true
      · refine wp_if_neg (by simp [hl]) ?_
        try refine wpAny_bind (wpAny_pure ?_)
        exact go
      · refine wp_if_pos (by simp [hl]) (wpAny_bind (seen_tup hx (fun y hy => ?_) (wp_if_neg (by decide) ?_)))
        · obtain ⟨e, he, rfl⟩ := List.mem_map.mp hy
          have em : e ∈ es.toList := by
            have : e ∈ es ∧ e.1 = thash P w k := by simpa using he
            simpa using this.1
          rw [R.rw'] at em
          obtain ⟨q2, hq2, rfl⟩ := List.mem_map.mp em
          exact ⟨q2.2, q2.1, rfl, R.it q2 hq2⟩
        · try refine wpAny_bind (wpAny_pure ?_)
          exact go
    · have pr : t.probe (fun i => (es[i]?.map (·.1)).getD 0) (thash P w k) (st.getD (t.probeStart (thash P w k))) = some (.empty (wy t.mask (thash P w k) K) none) := by
        rw [hst, show wy t.mask (thash P w k) K = (nth t.mask (nth t.mask (p0 t (thash P w k)) c) (K - c)).j by rw [cj, show c + (K - c) = K by omega]]
        exact d2
      rw [pr]
      dsimp only
      refine wpAny_pure (qout fun z => ?_)
      obtain ⟨q, hq, e⟩ := List.mem_map.mp z
      obtain ⟨i, hi⟩ := List.mem_iff_getElem?.mp hq
      obtain ⟨d', b1, b2, b3⟩ := hre i q hi e
      exact d1 (d' - c) i (by omega) (by rw [cj, show c + (d' - c) = d' by omega]; exact b3) ((hat i q hi).trans (congrArg (thash P w) e))
theorem look (R : SG P w s.heap a L es ep t) {x : Addr} {k : List Int} (hx : IsT P w s.heap k x) (hu : A.units < cLine) {Q : SetFound → Shared → Prop} (qin : k ∈ L.map (·.2) → Q (.there none) s)
    (qout : ∀ K : Nat, k ∉ L.map (·.2) → wy t.mask (thash P w k) K ∉ t.place.toList → (∀ c : Nat, c < K → wy t.mask (thash P w k) c ∈ t.place.toList) → Q (.free (wy t.mask (thash P w k) K) false) s) :
    wpAny (model P w) A (setSearch a (.ref x) (thash P w k) true) Q E s := by
  have rm := R.rm
  obtain ⟨K, k1, k2, k3⟩ := R.tg.gap (by rw [List.length_map]; omega) (thash P w k)
  have top := R.tg.mg.top
  have k4 : K < 100000 := by unfold SetTable.turns at k1; omega
  unfold setSearch
  refine seek R hx hu k1 k2 k3 qin (fun n => qout K n k2 k3) 100000 0 none rfl (Nat.zero_le _) (by omega) fun i q hq e => ?_
  have hi : (L.map fun q => thash P w q.2)[i]? = some (thash P w k) := by rw [List.getElem?_map, hq, ← e]; rfl
  have il : i < t.place.toList.length := by
    have z := (List.getElem?_eq_some_iff.mp hi).1
    rw [Array.length_toList, R.tg.sz]
    exact z
  obtain ⟨d, d1, d2⟩ := R.tg.ahead k2 hi (List.getElem?_eq_getElem il)
  exact ⟨d, Nat.zero_le _, d1, by rw [List.getElem?_eq_getElem il, d2]⟩
/-- the table laid anew -/
theorem anew {o : Obj} (ho : s.heap.get? a = some o) (hex : o.ExactSet) (hd : o.data = .set es ep t) (hr : es.toList = rowsOf P w L) (h1 : t.place.size = es.size) (h2 : t.dummies = #[]) (h3 : es.size ≤ t.mask)
    (nd : (L.map (·.2)).Nodup) (it : ∀ q : Addr × List Int, q ∈ L → IsT P w s.heap q.2 q.1) (pl : t.plain = true) (ld : w.params.followText "set-order" = true ∨ t.led = true) (fw : L.length ≤ 300) {wanted m : Nat}
    (hw : SetTable.sizeAbove wanted - 1 = m) (g : MG m) (hz : SetTable.sizeAbove wanted ≤ 512) (hn : L.length * 5 < m * 3) {Q : Unit → Shared → Prop}
    (q : ∀ h' L' es' ep' t', Heap.SameBut a s.heap h' → SG P w h' a L' es' ep' t' → L'.Perm L → Q () { s with heap := h' }) : wpAny (model P w) A (setRelay a wanted) Q E s := by
  have sl := rows_len hr
  have fit : t.fits es.size = true := by
    have h4 : t.fill = es.size := by
      show t.place.size + t.dummies.size = _
      rw [h1, h2]; rfl
    unfold SetTable.fits
    simp only [Bool.and_eq_true, beq_iff_eq, decide_eq_true_eq]
    omega
  obtain ⟨t2, od, e, pm, T, em, el, epl, _⟩ := laid_anew t (hs := es.map (·.1)) hw g (by rw [Array.size_map, sl]; omega)
  rw [Array.size_map, sl] at pm
  obtain ⟨L2, r1, r2, r3⟩ := order_rows L es od hr pm
  rw [← r3] at T
  have s2 : (od.filterMap (es[·]?)).size = es.size := by rw [rows_len r1, sl]; exact r2.length_eq
  rw [setRelay_eq]
  refine wpAny_bind (wpAny_setState_of ho hd fit ?_)
  dsimp only
  refine wp_if_neg (by rw [sizeLine_eq]; omega) ?_
  try refine wpAny_bind (wpAny_pure ?_)
  rw [e]
  dsimp only
  refine wpAny_bind (wp_if_neg (by rw [s2]; simp) ?_)
  try refine wpAny_bind (wpAny_pure ?_)
  refine wpAny_pure ?_
  dsimp only
  have sb : Heap.SameBut a s.heap (s.heap.update a (Obj.putSet (od.filterMap (es[·]?)) t2)) := Heap.SameBut.update ..
  refine wpAny_storeSet_of ho hd (q _ L2 (od.filterMap (es[·]?)) (ep + 1) t2 sb ?_ r2) (by rw [s2, sl, sizeLine_eq]; omega)
  exact { ob := ⟨_, store_at ho hd, ⟨hex.1, hex.2.1, hex.2.2⟩, rfl⟩, rw' := r1, tg := T, nd := (r2.map (·.2)).nodup_iff.mpr nd, it := fun z hz => isT_same (it z (r2.mem_iff.mp hz)) ho hd sb, pl := epl.trans pl, ld := by rw [el]; exact ld, rm := by rw [r2.length_eq, em]; exact hn, fw := by rw [r2.length_eq]; exact fw }
theorem gr5 : SetTable.sizeAbove (SetTable.grown 5) = 32 := by decide +kernel
theorem gr19 : SetTable.sizeAbove (SetTable.grown 19) = 128 := by decide +kernel
theorem gr77 : SetTable.sizeAbove (SetTable.grown 77) = 512 := by decide +kernel
end
end Rw.Tq
end
section
set_option Elab.async false
set_option linter.all false
set_option maxRecDepth 100000
namespace Rw.Tq
open PySem PySem.Spec PyProof.Rows L2
section
variable {P : Program} {w : World} {A : Around} {E : Value → Shared → Prop} {s : Shared} {a : Addr} {L : List (Addr × List Int)} {es : Array (Int × Value)} {ep : Nat} {t : SetTable}
/-- one put in -/
theorem put1 (R : SG P w s.heap a L es ep t) {x : Addr} {k : List Int} (hx : IsT P w s.heap k x) (hu : A.units < cLine) (fw : L.length + 1 ≤ 300) {Q : Bool → Shared → Prop}
    (q : ∀ b h' L' es' ep' t', Heap.SameBut a s.heap h' → SG P w h' a L' es' ep' t' → (k ∈ L.map (·.2) → L' = L) → (k ∉ L.map (·.2) → L'.Perm ((x, k) :: L)) → Q b { s with heap := h' }) :
    wpAny (model P w) A (setAddHashed a (.ref x) (thash P w k)) Q E s := by
  obtain ⟨o, ho, hex, hd⟩ := R.ob
  have sl := rows_len R.rw'
  have rm := R.rm
  unfold setAddHashed
  refine wpAny_holding ?_
  rw [show (100000 : Nat) = 99999 + 1 from rfl, setAddHashedIn_succ]
  refine wpAny_bind (wpAny_setState_of ho hd R.fit ?_)
  dsimp only
  refine wp_if_neg (by simp [byScan, Value.scannable]) ?_
  try refine wpAny_bind (wpAny_pure ?_)
  refine wpAny_bind (look R hx hu (fun hm => ?_) fun K hm k2 k3 => ?_)
  · dsimp only
    exact wpAny_pure (q false s.heap L es ep t (Heap.SameBut.refl a s.heap) R (fun _ => rfl) fun z => absurd hm z)
  · dsimp only
    refine wpAny_bind (wpAny_setState_of ho hd R.fit ?_)
    dsimp only
    obtain ⟨p, ep0⟩ : ∃ p, p = SetTable.below t.place (wy t.mask (thash P w k) K) := ⟨_, rfl⟩
    obtain ⟨q1, q2, T, q4, q5, q6, q7⟩ := R.tg.ins k2 k3 ep0
    rw [List.length_map] at q7
    have hp1 : (t.put (wy t.mask (thash P w k) K)).1.plain = true := q6.trans R.pl
    generalize hpt : t.put (wy t.mask (thash P w k) K) = pt at q1 T q4 q5 q7 hp1 ⊢
    obtain ⟨t1, p1⟩ := pt
    dsimp only at q1 T q4 q5 q7 hp1 ⊢
    subst q1
    first
      | exact wpAny_bind (wp_if_pos hp1 (hashBy_tup hx ?_))
      | refine wp_if_pos hp1 (wpAny_bind (hashBy_tup hx ?_))
      | (refine wpAny_bind ?_; refine wp_if_pos hp1 (hashBy_tup hx ?_))
    simp only [if_true]
    have er : (SetTable.insertAt es p1 (thash P w k, Value.ref x)).toList = rowsOf P w (L.take p1 ++ (x, k) :: L.drop p1) := by
      rw [SetTable.toList_insertAt, rows_put, R.rw']
    have eh : (L.map fun q => thash P w q.2).take p1 ++ thash P w k :: (L.map fun q => thash P w q.2).drop p1 = (L.take p1 ++ (x, k) :: L.drop p1).map fun q => thash P w q.2 := by
      rw [List.map_append, List.map_cons, List.map_take, List.map_drop]
    rw [eh] at T
    have pm := put_perm L p1 (x, k)
    generalize L.take p1 ++ (x, k) :: L.drop p1 = L1 at er T pm
    generalize SetTable.insertAt es p1 (thash P w k, Value.ref x) = es1 at er ⊢
    have l1 : L1.length = L.length + 1 := pm.length_eq
    have se : es1.size = L.length + 1 := by rw [rows_len er, l1]
    have nd1 : (L1.map (·.2)).Nodup := (pm.map (·.2)).nodup_iff.mpr (List.nodup_cons.mpr ⟨hm, R.nd⟩)
    refine wpAny_bind (wpAny_storeSet_of ho hd ?_ (by rw [se, sizeLine_eq]; omega))
    have sb : Heap.SameBut a s.heap (s.heap.update a (Obj.putSet es1 t1)) := Heap.SameBut.update ..
    have o1 := store_at (es' := es1) (t' := t1) ho hd
    generalize s.heap.update a (Obj.putSet es1 t1) = h1 at sb o1 ⊢
    have it1 : ∀ z : Addr × List Int, z ∈ L1 → IsT P w h1 z.2 z.1 := fun z hz => by
      rcases List.mem_cons.mp (pm.mem_iff.mp hz) with rfl | hz
      · exact isT_same hx ho hd sb
      · exact isT_same (R.it z hz) ho hd sb
    have ld1 : w.params.followText "set-order" = true ∨ t1.led = true := by rw [q5]; exact R.ld
    have sz1 : t1.place.size = es1.size := by rw [T.sz, List.length_map, l1, se]
    by_cases hf : t1.tooFull = true
    · have full : t1.mask * 3 ≤ (L.length + 1) * 5 := by
        have z := hf
        unfold SetTable.tooFull at z
        rw [decide_eq_true_eq, q7] at z
        exact z
      rw [q4] at full
      have rel : ∀ m : Nat, SetTable.sizeAbove (SetTable.grown (L.length + 1)) = m + 1 → MG m → (L.length + 1) * 5 < m * 3 → wpAny (model P w) A (setRelay a (SetTable.grown (L.length + 1))) (fun _ s' => wpAny (model P w) A (pure true) Q E s') E { s with heap := h1 } := fun m z1 g z2 =>
        anew (s := { s with heap := h1 }) o1 ⟨hex.1, hex.2.1, hex.2.2⟩ rfl er sz1 T.dm (by rw [se, q4]; omega) nd1 it1 hp1 ld1 (by omega) (by rw [z1]; rfl) g (by rw [z1]; have := g.top; omega) (by rw [l1]; exact z2)
          fun h2 L2 es2 ep2 t2 sb2 R2 pm2 => wpAny_pure (q true h2 L2 es2 ep2 t2 (sb.trans sb2) R2 (fun z => absurd z hm) fun _ => pm2.trans pm)
      have go : wpAny (model P w) A (setRelay a (SetTable.grown (L.length + 1))) (fun _ s' => wpAny (model P w) A (pure true) Q E s') E { s with heap := h1 } := by
        rcases R.tg.mg.ms with e | e | e | e <;> rw [e] at full rm
        · exact rel 31 (by rw [show L.length + 1 = 5 by omega]; exact gr5) (mg_of (.inr (.inl rfl))) (by omega)
        · exact rel 127 (by rw [show L.length + 1 = 19 by omega]; exact gr19) (mg_of (.inr (.inr rfl))) (by omega)
        · exact rel 511 (by rw [show L.length + 1 = 77 by omega]; exact gr77) mg511 (by omega)
        · omega
      rw [sl]
      first
        | exact wpAny_bind (wp_if_pos (by simp [hf]) go)
        | exact wp_if_pos (by simp [hf]) (wpAny_bind go)
    · have room : L1.length * 5 < t1.mask * 3 := by
        have z := hf
        unfold SetTable.tooFull at z
        rw [decide_eq_true_eq, q7] at z
        omega
      have fin := q true h1 L1 es1 (ep + 1) t1 sb { ob := ⟨_, o1, ⟨hex.1, hex.2.1, hex.2.2⟩, rfl⟩, rw' := er, tg := T, nd := nd1, it := it1, pl := hp1, ld := ld1, rm := room, fw := by omega } (fun z => absurd z hm) fun _ => pm
      first
        | exact wp_if_neg (by simp [hf]) (wpAny_pure fin)
        | exact wpAny_bind (wp_if_neg (by simp [hf]) (wpAny_pure (wpAny_pure fin)))
end
end Rw.Tq
end
section
set_option Elab.async false
set_option linter.all false
set_option maxRecDepth 100000
namespace Rw.Tq
open PySem PySem.Spec PyProof.Rows L2
section
variable {P : Program} {w : World} {A : Around} {T : Result → Shared → Prop} {J : Addr} {fo wo : List Addr} {G : Array GenState → Array GenState → Prop} {m : Nat} {V : Nat → Value → Prop} {Z : Nat → Shared → Prop}
theorem SG.moved {h h' : Heap} {a : Addr} {L : List (Addr × List Int)} {es : Array (Int × Value)} {ep : Nat} {t : SetTable} (R : SG P w h a L es ep t) (ha : ∀ o : Obj, h.get? a = some o → h'.get? a = some o) (hi : ∀ q : Addr × List Int, q ∈ L → IsT P w h' q.2 q.1) : SG P w h' a L es ep t :=
  { R with ob := (by obtain ⟨o, e, r⟩ := R.ob; exact ⟨o, ha o e, r⟩), it := hi }
abbrev setN (w : World) : Obj := { cls := .type "set", dict := none, data := .set #[] 0 (.fresh 0 0 (!w.params.followText "set-order")) }
theorem sg_new {h : Heap} {a : Addr} (e : h.get? a = some (setN w)) : SG P w h a [] #[] 0 (.fresh 0 0 (!w.params.followText "set-order")) :=
  { ob := ⟨_, e, ⟨rfl, rfl, rfl⟩, rfl⟩
    rw' := rfl
    tg := { ris := List.Pairwise.nil, dm := rfl, sz := rfl, mg := mg_of (.inl rfl), bd := fun x hx => (nomatch hx), rch := fun i h j hi => (by simp at hi) }
    nd := List.nodup_nil
    it := fun q hq => nomatch hq
    pl := rfl
    ld := by
      show _ ∨ (!w.params.followText "set-order") = true
      cases w.params.followText "set-order" <;> simp
    rm := by show 0 * 5 < 7 * 3; decide
    fw := Nat.zero_le _ }
/-- the loop that puts what is left in -/
theorem put_all (W : WalksS P w A.in1 J fo wo G m V Z) {a : Addr} (ha : a ∉ fo) {ks : List (Addr × List Int)} (hl : ks.length = m) (hm : m ≤ 300) (hv : ∀ i v, V i v → ∃ q, ks[i]? = some q ∧ v = .ref q.1)
    {h0 : Heap} (hk : ∀ q : Addr × List Int, q ∈ ks → IsT P w h0 q.2 q.1) (na : h0.get? a = none) (nw : ∀ b : Addr, b ∈ wo → h0.get? b = none) (hu : A.in1.units < cLine) :
    ∀ (n i : Nat) (s : Shared), n = m - i → i ≤ m → Z i s → (∀ (b : Addr) (o : Obj), h0.get? b = some o → s.heap.get? b = some o) → (∃ L es ep t, SG P w s.heap a L es ep t ∧ Got ks i L) →
      (∀ s' L es ep t, Moved (a :: wo) G s s' → SG P w s'.heap a L es ep t → Got ks m L → (∀ (b : Addr) (o : Obj), h0.get? b = some o → s'.heap.get? b = some o) → T (.ok (.ret .none)) s') →
      codeAny (model P w) A (.builtin "set.update.loop" ⟨[.ref a, .ref J], []⟩) T s := by
  have aw : a ∉ wo := fun z => ha (W.sub _ z)
  have more : ∀ b ∈ wo, b ∈ a :: wo := fun b hb => List.mem_cons_of_mem _ hb
  have kept : ∀ {s s' : Shared}, Moved wo G s s' → (∀ (b : Addr) (o : Obj), h0.get? b = some o → s.heap.get? b = some o) → ∀ (b : Addr) (o : Obj), h0.get? b = some o → s'.heap.get? b = some o := fun mv k b o e => mv.heap b o (fun z => by rw [nw b z] at e; cases e) (k b o e)
  intro n
  induction n with
  | zero =>
    intro i s hn hi st k ⟨L, es, ep, t, R, g⟩ fin
    have ei : i = m := by omega
    subst ei
    refine codeAny_builtin F.entry_set_update_loop ?_
    rw [Around.under_plainId F.plain_set_update_loop _]
    refine wpAny_bind (m := pyNext (.ref J)) (W.done s _ _ st fun s1 mv => wpAny_pure (fin s1 L es ep t (mv.mono more) (R.moved (fun o e => mv.heap a _ aw e) fun q hq => ?_) g (kept mv k)))
    exact isT_keep (hk q (List.mem_of_mem_take (g.sub q hq))) (kept mv k)
  | succ n ih =>
    intro i s hn hi st k ⟨L, es, ep, t, R, g⟩ fin
    have lt : i < m := by omega
    refine codeAny_builtin F.entry_set_update_loop ?_
    rw [Around.under_plainId F.plain_set_update_loop _]
    refine wpAny_bind (m := pyNext (.ref J)) (W.item i s _ _ lt st fun v s1 pv st1 mv => ?_)
    obtain ⟨q, hq, rfl⟩ := hv _ _ pv
    have k1 := kept mv k
    have R1 : SG P w s1.heap a L es ep t := R.moved (fun o e => mv.heap a _ aw e) fun z hz => isT_keep (hk z (List.mem_of_mem_take (g.sub z hz))) k1
    have x1 : IsT P w s1.heap q.2 q.1 := isT_keep (hk q (List.mem_of_getElem? hq)) k1
    refine wpAny_bind (m := holding [Value.ref q.1] (setAdd a (.ref q.1))) (wpAny_holding ?_)
    unfold setAdd
    refine wpAny_holding (wpAny_bind (wpAny_pyHash_tuple hu x1 ?_))
    refine put1 (s := { s1 with toks := s1.toks + (q.2.length + 1) }) R1 x1 hu (by have := g.len; omega) fun b h2 L2 es2 ep2 t2 sb R2 c1 c2 => ?_
    have g2 : Got ks (i + 1) L2 := by
      by_cases c : q.2 ∈ L.map (·.2)
      · rw [c1 c]; exact g.same hq c
      · exact g.more hq (c2 c)
    have off : ∀ (b : Addr) (o : Obj), b ≠ a → s1.heap.get? b = some o → h2.get? b = some o := fun b o z e => (sb.2 b z).trans e
    refine wpAny_pure ⟨plainId_quiet F.plain_set_update_loop _, ih (i + 1) _ (by omega) lt (W.frame _ s1 _ _ st1 (Nat.le_add_right _ _) fun b hb o e => off b o (fun z => ha (z ▸ hb)) e) (fun b o e => off b o (fun z => by rw [z, na] at e; cases e) (k1 b o e)) ⟨L2, es2, ep2, t2, R2, g2⟩ fun s3 L3 es3 ep3 t3 mv3 R3 g3 k3 => ?_⟩
    exact fin s3 L3 es3 ep3 t3 (Moved.trans W.gtrans ((mv.mono more).then_heap (Nat.le_add_right _ _) fun b o hb e => off b o (fun z => hb (z ▸ List.mem_cons_self)) e) mv3) R3 g3 k3
end
section
variable {P : Program} {w : World} {A : Around} {E : Value → Shared → Prop} {s : Shared}
set_option maxHeartbeats 4000000 in
theorem set_of_tups {l : Addr} {its : Array Value} {ks : List (Addr × List Int)} {Q : Value → Shared → Prop} (calm : A.handled = none) (hl : s.heap.IsList l its) (hi : its.toList = ks.map fun q => Value.ref q.1) (hk : ∀ q : Addr × List Int, q ∈ ks → IsT P w s.heap q.2 q.1) (hn : ks.length ≤ 300) (hu : A.units + 3 < cLine)
    (q : ∀ h' tk L es ep t, SG P w h' s.heap.objs.size L es ep t → Got ks ks.length L → (∀ (b : Addr) (o : Obj), s.heap.get? b = some o → h'.get? b = some o) → Q (.ref s.heap.objs.size) { s with heap := h', toks := tk }) :
    wpAny (model P w) A (call (.type "set") [.ref l]) Q E s := by
  obtain ⟨c0, tl0, mro0⟩ := F.called_set.mro
  have m0 := F.called_set.made
  have m1 := F.called_set.sub
  refine wpAny_call (codeAny_of_tree ?_)
  change wpAny (model P w) _ (callAny (Value.type "set") _) _ _ s
  refine wpAny_pure ⟨Code.quiet_builtin _ (by decide +kernel), codeAny_builtin F.entry_type_call (?_)⟩
  rw [Around.under_plain (weight_type_call_type ("set" : String) [.ref l] []) rfl]
  have m2 := F.called_set.notType
  have m3 := F.called_set.canCreate
  have m4 := F.typeCall_set_1 (.ref l)
  repeat (any_goals (first | assumption | wp_step))
  refine codeAny_mono (code_set_led1 (.ref l) (E := E) (Q₁ := fun v s1 => v = .ref s.heap.objs.size ∧ s1 = { s with heap := s.heap.push (setN w) }) ⟨rfl, rfl⟩) fun res s1 hres => ?_
  rcases res with e | fl
  · exact hres
  rcases fl with _ | _ | _ | v
  · exact hres.elim
  · exact hres.elim
  · exact hres.elim
  obtain ⟨rfl, rfl⟩ := hres
  have gS : (s.heap.push (setN w)).get? s.heap.objs.size = some (setN w) := Heap.get?_push_size _ rfl
  have tS : Shared.TypeIs { s with heap := s.heap.push (setN w) } (.ref s.heap.objs.size) "set" := ⟨_, gS, rfl⟩
  have i1 := F.called_set.init.lookup
  have i2 := F.called_set.init.bind (.ref s.heap.objs.size)
  repeat (any_goals (first | assumption | wp_step))
  refine codeAny_mono (codeAny_call_builtin (R := wants (fun v s2 => v = .none ∧ ∃ h' tk L es ep t, s2 = { s with heap := h', toks := tk } ∧ SG P w h' s.heap.objs.size L es ep t ∧ Got ks ks.length L ∧ ∀ b o, s.heap.get? b = some o → h'.get? b = some o) E)
    F.called_set.init.plain F.entry_set_init (check_set_init_1 tS ?_)) fun res2 s2 hres2 => ?_
  · obtain ⟨ol, gl, cl, nl, dl⟩ := hl
    obtain ⟨oc, od, oda, osl⟩ := ol
    simp only at cl dl
    subst cl
    subst dl
    have gl1 : (s.heap.push (setN w)).get? l = some { cls := .type "list", dict := od, data := .seq its nl, slots := osl } := Heap.get?_push_of_some _ gl
    have n1 := F.sub_list_set
    have n2 := F.sub_list_frozenset
    have n3 : (Value.type "list" == Value.type "dict") = false := by decide
    have isl : (s.heap.push (setN w)).IsList l its := ⟨_, gl1, rfl, nl, rfl⟩
    unfold Builtin.«set.__init__» noKeywords Builtin.Frozenset.updateFrom
    generalize hit : pyIter = it0
    wp_walk
    subst hit
    refine wpAny_pyIter_list isl (wpAny_bind (wpAny_runValue ?_))
    have ll : l < s.heap.objs.size := Heap.lt_size gl
    have calm3 : A.in1.in1.in1.handled = none := by simp [calm]
    have sz1 : (s.heap.push (setN w)).objs.size = s.heap.objs.size + 1 := Heap.size_push ..
    have nI : l ≠ (s.heap.push (setN w)).objs.size := by rw [sz1]; exact Nat.ne_of_lt (Nat.lt_succ_of_lt ll)
    have nF : s.heap.objs.size ∉ [(s.heap.push (setN w)).objs.size, l] := by
      rw [sz1]
      simp only [List.mem_cons, List.not_mem_nil, or_false, not_or]
      exact ⟨Nat.ne_of_lt (Nat.lt_succ_self _), Nat.ne_of_gt ll⟩
    have hm : ks.length = its.size := by
      rw [← Array.length_toList, hi, List.length_map]
    have hval : ∀ (i : Nat) (v : Value), its[i]? = some v → ∃ q, ks[i]? = some q ∧ v = .ref q.1 := fun i v e => by
      rw [← Array.getElem?_toList, hi, List.getElem?_map] at e
      cases z : ks[i]? with
      | none => rw [z] at e; cases e
      | some q => rw [z] at e; exact ⟨q, rfl, (Option.some.inj e).symm⟩
    have free : ∀ b : Addr, s.heap.objs.size ≤ b → s.heap.get? b = none := fun b hb => by
      cases z : s.heap.get? b with
      | none => rfl
      | some o => exact absurd (Nat.lt_of_lt_of_le (Heap.lt_size z) hb) (Nat.lt_irrefl _)
    refine put_all ((Walks.list calm3 _ l nI its).toS) nF hm (by omega) hval (h0 := s.heap) hk (free _ (Nat.le_refl _)) (fun b hb => free b (by
        rw [List.mem_singleton.mp hb, sz1]
        exact Nat.le_succ _)) hu _ 0 _ rfl (Nat.zero_le _) ⟨⟨_, Heap.get?_push_size _ rfl, rfl, rfl⟩, isl.push _⟩ (fun b o e => Heap.get?_push_of_some _ (Heap.get?_push_of_some _ e))
      ⟨[], #[], 0, _, sg_new (Heap.get?_push_of_some _ gS), Got.zero ks⟩ ?_
    intro s3 L es ep t mv R g k
    obtain ⟨h3, g3, d3, t3, o3⟩ := s3
    have e1 : g3 = s.gens := mv.gens
    have e2 : d3 = s.drawn := mv.drawn
    have e3 : o3 = s.os := mv.os
    subst e1
    subst e2
    subst e3
    rw [← hm] at g
    exact wpAny_pure (wpAny_pure ⟨rfl, h3, t3, L, es, ep, t, rfl, R, g, k⟩)
  · rcases res2 with e | fl
    · exact hres2
    rcases fl with _ | _ | _ | v
    · exact hres2.elim
    · exact hres2.elim
    · exact hres2.elim
    obtain ⟨rfl, h', tk, L, es, ep, t, rfl, R, g, kk⟩ := hres2
    repeat (any_goals (first | assumption | wp_step))
    exact q _ _ _ _ _ _ R g kk
end
end Rw.Tq
end
section
set_option Elab.async false
set_option linter.all false
set_option maxRecDepth 100000
namespace Rw.Tq
open PySem PySem.Spec PyProof.Rows L2
structure SG0 (P : Program) (w : World) (h : Heap) (a : Addr) (L : List (Addr × List Int)) : Prop where
  ex : ∃ (es : Array (Int × Value)) (ep : Nat) (t : SetTable), (∃ o : Obj, h.get? a = some o ∧ o.ExactSet ∧ o.data = .set es ep t) ∧ es.toList = rowsOf P w L ∧ TG t (L.map fun q => thash P w q.2) ∧ (L.map (·.2)).Nodup ∧ t.plain = true ∧
    (w.params.followText "set-order" = true ∨ t.led = true) ∧ L.length * 5 < t.mask * 3 ∧ L.length ≤ 300
def SGO (P : Program) (w : World) (a : Addr) (L : List (Addr × List Int)) : HO := .ext fun h => SG0 P w h a L
section
variable {P : Program} {w : World}
theorem SG.zero {h : Heap} {a : Addr} {L : List (Addr × List Int)} {es : Array (Int × Value)} {ep : Nat} {t : SetTable} (R : SG P w h a L es ep t) : SG0 P w h a L := ⟨es, ep, t, R.ob, R.rw', R.tg, R.nd, R.pl, R.ld, R.rm, R.fw⟩
theorem SG0.all {h : Heap} {a : Addr} {L : List (Addr × List Int)} (R : SG0 P w h a L) (it : ∀ q : Addr × List Int, q ∈ L → IsT P w h q.2 q.1) : ∃ es ep t, SG P w h a L es ep t := by
  obtain ⟨es, ep, t, h1, h2, h3, h4, h5, h6, h7, h8⟩ := R.ex
  exact ⟨es, ep, t, { ob := h1, rw' := h2, tg := h3, nd := h4, it := it, pl := h5, ld := h6, rm := h7, fw := h8 }⟩
theorem sgo_new {H : Hp} {h : Heap} {a : Addr} {L : List (Addr × List Int)} (R : SG0 P w h a L) : ObjOk P w H h a (SGO P w a L) := by
  obtain ⟨es, ep, t, ⟨o, ho, r⟩, q⟩ := id R.ex
  refine ⟨R, ⟨o, ho⟩, fun h1 h2 z k => ?_⟩
  obtain ⟨es', ep', t', ⟨o', ho', r'⟩, q'⟩ := SG0.ex z
  exact ⟨es', ep', t', ⟨o', k o' ho', r'⟩, q'⟩
end
section
variable {X : Cx}
/-- set(xs), xs a list of tuples of ints -/
def rSetG (K : PySem.W.Frag) (P : Program) (w : World) : List V → Hp → VK → Prop := fun xs H Q => ∃ (l : Addr) (ks : List (Addr × List Int)), xs = [V.ref l] ∧ SqL K H l (ks.map fun q => V.ref q.1) ∧ (∀ q : Addr × List Int, q ∈ ks → SqT K H q.1 (q.2.map V.int)) ∧ ks.length ≤ 300 ∧
  ∀ a L, H a = none → (∀ q : Addr × List Int, q ∈ L → q ∈ ks) → (∀ q : Addr × List Int, q ∈ ks → q.2 ∈ L.map (·.2)) → (L.map (·.2)).Nodup → Q (.ref a) (upd H a (SGO P w a L))
theorem cr_setG (hc : X.calm = true) (hu : X.A.units + 64 < cLine) : CallR X (.type "set") (rSetG X.K X.prog X.w) := by
  intro pins s σ H xs us Q I r h
  obtain ⟨l, ks, rfl, hl, hk, hf, q⟩ := h
  rw [Vals.ref1 r]
  obtain ⟨its, rv, pl, hz⟩ := I.list hl
  refine set_of_tups (P := X.prog) (w := X.w) (ks := ks) (I.ok.hd hc) pl.isList (by simpa using refs_of_vals rv) (fun q hq => I.isT (hk q hq)) hf (by omega) fun h' tk L es ep t R g k => ?_
  exact ⟨.ref s.heap.objs.size, upd H s.heap.objs.size (SGO X.prog X.w s.heap.objs.size L), I.laid (t' := tk) k (Nat.le_refl _) (sgo_new R.zero), rfl, q _ L (I.hok.fresh (Nat.le_refl _)) (fun z hz => List.mem_of_mem_take (g.sub z hz)) (fun z hz => g.all z (by rw [List.take_length]; exact hz)) R.nd⟩
/-- a pair's ints -/
def pr2 : List Int → Int × Int
  | [i, j] => (i, j)
  | _ => (0, 0)
/-- sorted(set), pairs -/
def rSrtG (K : PySem.W.Frag) (P : Program) (w : World) : List V → Hp → VK → Prop := fun vs H Q => ∃ (a : Addr) (L : List (Addr × List Int)), vs = [V.ref a] ∧ H a = some (SGO P w a L) ∧ (∀ q : Addr × List Int, q ∈ L → SqT K H q.1 (q.2.map V.int) ∧ q.2.length = 2) ∧
  ∀ (M : List (Addr × List Int)) (b : Addr), M.Perm L → M.Pairwise (fun x y => SrtO.lexB (pr2 y.2) (pr2 x.2) = false) → H b = none → Q (.ref b) (upd H b (.lst (M.map fun q => V.ref q.1)))
theorem cr_srtG (hc : X.calm = true) : CallR X (.builtin "sorted") (rSrtG X.K X.prog X.w) := by
  intro pins s σ H vs us Q I r h
  obtain ⟨a, L, rfl, ha, hk, q⟩ := h
  obtain ⟨es, ep, t, R⟩ := SG0.all (show SG0 X.prog X.w s.heap a L from (I.hok a _ ha).1) fun z hz => I.isT (hk z hz).1
  rw [Vals.ref1 r]
  obtain ⟨o, ho, hex, hd⟩ := R.ob
  have se := rows_len R.rw'
  have fw := R.fw
  refine Calls.call_function_entry kind_sorted plain_sorted entry_sorted (args_sorted1 _) ?_
  unfold Builtin.«sorted»
  refine wpAny_bind (m := checkCount "sorted" 1 1 _) (wpAny_pure ?_)
  refine wpAny_bind (collect_set (A := X.A.in1) (I.ok.hd hc) ⟨o, ho, hex.1, hd⟩ R.fit (by unfold scanBound; omega) R.tg.ris R.ld fun s1 vs k1 hz g1 o1 pm => ?_)
  have er : es.toList.map (·.2) = L.map fun z => Value.ref z.1 := by
    rw [R.rw', rowsOf, List.map_map]
    rfl
  rw [er] at pm
  have lv : vs.length = L.length := by rw [pm.length_eq, List.length_map]
  refine wpAny_bind (wpAny_newList ?_ (by rw [sizeLine_eq]; omega))
  have gl : (s1.heap.push (seqObj "list" vs.toArray 0)).get? s1.heap.objs.size = some (seqObj "list" vs.toArray 0) := Heap.get?_push_size _ rfl
  have up : ∀ (b : Addr) (u : Obj), s.heap.get? b = some u → (s1.heap.push (seqObj "list" vs.toArray 0)).get? b = some u := fun b u e => Heap.get?_push_of_some _ (k1 b u e)
  have tup : ∀ z : Addr × List Int, z ∈ L → ∃ (o : Obj) (t1 t2 : Tok) (n : Nat), (s1.heap.push (seqObj "list" vs.toArray 0)).get? z.1 = some o ∧ o.cls = .type "tuple" ∧ o.data = .seq #[Value.int (pr2 z.2).1 t1, Value.int (pr2 z.2).2 t2] n ∧ Si.kp (s1.heap.push (seqObj "list" vs.toArray 0)) (.ref z.1) = pr2 z.2 := fun z hz => by
    obtain ⟨o, its, n, e1, e2, e3, e4⟩ := isT_keep (R.it z hz) up
    have l2 := (hk z hz).2
    obtain ⟨za, zk⟩ := z
    obtain ⟨i, j, rfl⟩ : ∃ i j, zk = [i, j] := by
      match zk, l2 with
      | [i, j], _ => exact ⟨i, j, rfl⟩
    obtain ⟨l⟩ := its
    cases e4 with
    | cons a1 r1 =>
      cases r1 with
      | cons a2 r2 =>
        cases r2
        obtain ⟨t1, rfl⟩ := Value.isInt_shape a1
        obtain ⟨t2, rfl⟩ := Value.isInt_shape a2
        refine ⟨o, t1, t2, n, e1, e2, e3, ?_⟩
        obtain ⟨oc, od, oda, os⟩ := o
        simp only at e3
        subst e3
        show (Si.iv (Si.pv _ _).1, Si.iv (Si.pv _ _).2) = _
        unfold Si.pv
        rw [e1]
        rfl
  have adr : ∀ v ∈ vs, ∃ z : Addr × List Int, z ∈ L ∧ v = Value.ref z.1 := fun v hv => by
    obtain ⟨z, hz, e⟩ := List.mem_map.mp (pm.mem_iff.mp hv)
    exact ⟨z, hz, e.symm⟩
  generalize s1.heap.push (seqObj "list" vs.toArray 0) = h2 at gl up tup ⊢
  have sort2 : 2 ≤ vs.length → SrtO.SortableO X.prog X.w X.A.in1.in1 { s1 with heap := h2 } s1.heap.objs.size vs (fun v u => SrtO.lexB (Si.kp h2 v) (Si.kp h2 u)) := fun h => by
    refine SrtO.pairs_sortableO (by omega) (fun v hv => ?_) (fun o e => ?_)
    · obtain ⟨z, hz, rfl⟩ := adr v hv
      obtain ⟨o, t1, t2, n, e1, e2, e3, e4⟩ := tup z hz
      rw [e4]
      exact ⟨z.1, o, t1, t2, n, rfl, e1, e2, e3⟩
    · cases e.symm.trans gl
      exact fun c => absurd (Value.type.inj c) (by decide)
  refine wpAny_bind (wpAny_holding (wpAny_call_entry slot_list_sort ⟨_, gl, rfl⟩ entry_list_sort (SrtO.list_sort_ord (s := { s1 with heap := h2 }) (SrtO.swo_lex (Si.kp h2)) gl (by rw [lv, sizeLine_eq]; omega) sort2 fun out s2 s3 => ⟨_, rfl, ?_⟩) (args_list_sort _)))
  obtain ⟨M, eM, hM⟩ : ∃ M : List (Addr × List Int), out = M.map (fun z => Value.ref z.1) ∧ ∀ z : Addr × List Int, z ∈ M → z ∈ L := by
    have : ∀ l : List Value, (∀ v ∈ l, ∃ z : Addr × List Int, z ∈ L ∧ v = Value.ref z.1) → ∃ M : List (Addr × List Int), l = M.map (fun z => Value.ref z.1) ∧ ∀ z : Addr × List Int, z ∈ M → z ∈ L := fun l => by
      induction l with
      | nil => exact fun _ => ⟨[], rfl, fun z hz => nomatch hz⟩
      | cons v l ih =>
        intro h
        obtain ⟨z, hz, e⟩ := h v List.mem_cons_self
        obtain ⟨M, e1, e2⟩ := ih fun u hu => h u (List.mem_cons_of_mem _ hu)
        refine ⟨z :: M, by rw [List.map_cons, e, e1], fun y hy => ?_⟩
        rcases List.mem_cons.mp hy with rfl | hy
        · exact hz
        · exact e2 y hy
    exact this out fun v hv => adr v (s3.perm.mem_iff.mp hv)
  subst eM
  -- an address stands for one tuple
  have inj : ∀ x : Addr × List Int, x ∈ L → ∀ y : Addr × List Int, y ∈ L → x.1 = y.1 → x = y := fun x hx y hy e => by
    have a1 := R.it x hx
    have a2 := R.it y hy
    rw [e] at a1
    exact Prod.ext e (a1.inj a2)
  have ndr : (L.map fun z => Value.ref z.1).Nodup := List.pairwise_map.mpr (List.Pairwise.imp_of_mem (fun {x y} hx hy hn e => hn (by rw [inj x hx y hy (Value.ref.inj e)])) (List.pairwise_map.mp R.nd))
  have pM : M.Perm L := by
    have p2 : (M.map fun z => Value.ref z.1).Perm (L.map fun z => Value.ref z.1) := s3.perm.trans pm
    refine (List.perm_ext_iff_of_nodup (nodup_of_map (p2.nodup_iff.mpr ndr)) (nodup_of_map ndr)).mpr fun z => ⟨hM z, fun hz => ?_⟩
    obtain ⟨y, hy, e⟩ := List.mem_map.mp (p2.mem_iff.mpr (List.mem_map.mpr ⟨z, hz, rfl⟩))
    rw [← inj y (hM y hy) z hz (Value.ref.inj e)]
    exact hy
  have pw : M.Pairwise (fun x y => SrtO.lexB (pr2 y.2) (pr2 x.2) = false) := by
    refine List.Pairwise.imp_of_mem (fun {x y} hx hy hh => ?_) (List.pairwise_map.mp s2)
    obtain ⟨_, _, _, _, _, _, _, e4⟩ := tup x (hM x hx)
    obtain ⟨_, _, _, _, _, _, _, e5⟩ := tup y (hM y hy)
    have h3 : SrtO.lexB (Si.kp h2 (.ref y.1)) (Si.kp h2 (.ref x.1)) = false := hh
    rw [e4, e5] at h3
    exact h3
  obtain ⟨c, hat⟩ := sortedHeap_at (vs := vs) (out := (M.map fun z => Value.ref z.1).toArray) gl
  have old : ∀ (b : Addr) (u : Obj), s.heap.get? b = some u → (sortedHeap h2 s1.heap.objs.size vs (M.map fun z => Value.ref z.1).toArray).get? b = some u := fun b u e => by
    have lt := Heap.lt_size e
    have lt2 := Heap.lt_size gl
    rw [sortedHeap_old (Nat.ne_of_lt (Nat.lt_of_lt_of_le lt hz)) (Nat.lt_trans (Nat.lt_of_lt_of_le lt hz) lt2)]
    exact up b u e
  have n1 : H s1.heap.objs.size = none := I.hok.fresh hz
  refine wpAny_pure ⟨_, rfl, ?_⟩
  have J : Inv X pins σ (upd H s1.heap.objs.size (.lst (M.map fun z => V.ref z.1))) { s with heap := sortedHeap h2 s1.heap.objs.size vs (M.map fun z => Value.ref z.1).toArray, gens := s1.gens, drawn := s1.drawn, toks := s1.toks } :=
    I.call (ch := []) (Un.laid old hz n1) (I.hok.laid old hz ⟨by rw [List.length_map, pM.length_eq, sizeLine_eq]; omega, (M.map fun z => Value.ref z.1), c, vals_of_refs M, hat⟩) (by rw [g1]; exact I.bare) (fun _ z => nomatch z)
  have e : ({ s1 with heap := sortedHeap h2 s1.heap.objs.size vs (M.map fun z => Value.ref z.1).toArray } : Shared) = { s with heap := sortedHeap h2 s1.heap.objs.size vs (M.map fun z => Value.ref z.1).toArray, gens := s1.gens, drawn := s1.drawn, toks := s1.toks } := by
    obtain ⟨a1, a2, a3, a4, a5⟩ := s1
    simp only at o1
    subst o1
    rfl
  rw [e]
  exact ⟨.ref _, _, J, rfl, q M _ pM pw n1⟩
end
end Rw.Tq
end
section
set_option Elab.async false
set_option linter.all false
set_option maxRecDepth 100000
set_option maxHeartbeats 0
namespace Rw
open PySem PySem.Spec PyProof.Rows L2
theorem ndP_mem {x : Int × Int} : ∀ l, x ∈ ndP l ↔ x ∈ l
  | [] => Iff.rfl
  | y :: r => by
    have ih := ndP_mem (x := x) r
    unfold ndP
    split
    · rename_i h
      rw [ih, List.mem_cons]
      refine ⟨.inr, fun z => ?_⟩
      rcases z with rfl | z
      · exact ih.mp h
      · exact z
    · rw [List.mem_cons, List.mem_cons, ih]
theorem ndP_nodup : ∀ l, (ndP l).Nodup
  | [] => List.nodup_nil
  | y :: r => by
    unfold ndP
    split
    · exact ndP_nodup r
    · rename_i h
      exact List.nodup_cons.mpr ⟨h, ndP_nodup r⟩
section
variable {K : PySem.W.Frag} {ca : Nat → Addr}
theorem prs_of {p : List Addr} {F : Hp} : ∀ {l : List D} {vs : List V} {ps : List (Int × Int)}, RDs K ca p F l vs → mapO prI l = some ps → ∃ ks : List (Addr × List Int), vs = ks.map (fun q => V.ref q.1) ∧ ks.map (fun q => Tq.pr2 q.2) = ps ∧ ∀ q : Addr × List Int, q ∈ ks → SqT K F q.1 (q.2.map V.int) ∧ q.2.length = 2
  | [], _, ps, h, e => by
    cases h
    have e1 : ps = [] := (Option.some.inj (show (some [] : Option (List (Int × Int))) = some ps from e)).symm
    subst e1
    exact ⟨[], rfl, rfl, fun q hq => nomatch hq⟩
  | d :: l, _, ps, ⟨v, w, e0, h1, h2⟩, e => by
    obtain ⟨x, m, q, q2, e2⟩ := mapO_cons e
    subst e2 e0
    obtain ⟨ks, a1, a2, a3⟩ := prs_of h2 q2
    subst a1 a2
    unfold prI at q
    split at q
    · rename_i i j
      cases q
      obtain ⟨a, vs, rfl, b1, v1, w1, rfl, rfl, v2, w2, rfl, rfl, rfl⟩ := h1
      refine ⟨(a, [i, j]) :: ks, rfl, rfl, fun q hq => ?_⟩
      rcases List.mem_cons.mp hq with rfl | hq
      · exact ⟨b1, rfl⟩
      · exact a3 q hq
    · cases q
theorem prs_RDs {p : List Addr} {F : Hp} : ∀ {ks : List (Addr × List Int)}, (∀ q : Addr × List Int, q ∈ ks → SqT K F q.1 (q.2.map V.int) ∧ q.2.length = 2) → RDs K ca p F ((ks.map fun q => Tq.pr2 q.2).map fun q => D.t (pr2T q)) (ks.map fun q => V.ref q.1)
  | [], _ => rfl
  | (a, k) :: ks, h => by
    obtain ⟨h1, h2⟩ := h _ List.mem_cons_self
    obtain ⟨i, j, rfl⟩ : ∃ i j, k = [i, j] := by
      match k, h2 with
      | [i, j], _ => exact ⟨i, j, rfl⟩
    exact ⟨V.ref a, _, rfl, ⟨a, _, rfl, h1, V.int i, _, rfl, rfl, V.int j, _, rfl, rfl, rfl⟩, prs_RDs fun q hq => h q (List.mem_cons_of_mem _ hq)⟩
end
section
variable {P : Pg} {fns : Nat → Option Fn} {ca fa : Nat → Addr} {fdt : Nat → FuncData} {C : Cal} {k : Nat} {X : Cx} {N : List Str} {sc : Scope} {W : XK}
theorem pr2_inj : ∀ {k k' : List Int}, k.length = 2 → k'.length = 2 → Tq.pr2 k = Tq.pr2 k' → k = k'
  | [i, j], [i', j'], _, _, e => by
    have e' : (i, j) = (i', j') := e
    cases e'
    rfl
theorem s_setSort (g : Good P fns ca fa fdt C k X N sc W) {a : Ex} {a' : Expr} {p1 p2 p3 p4 : Pos} (h1 : glB sc "sorted" = true) (h2 : glB sc "set" = true) (h3 : noStar a' = true) (ha : SE ca C X W a a') : SE ca C X W (.setSort a) (.Call (.Name "sorted" p1) [.Call (.Name "set" p2) [a'] [] p3] [] p4) := by
  obtain ⟨g1, g2, g3⟩ := g.gl h1
  obtain ⟨k1, k2, k3⟩ := g.gl h2
  refine PE.imp (pe_callB (Tq.cr_srtG g.calm) g1 (g.fx.free "sorted" (by decide)) (by decide +kernel) (pa_cons (pe_callTy (Tq.cr_setG g.calm (by have := g.hu; omega)) k1 (g.fx.free "set" (by decide)) boot_set (pa_cons ha pa_nil (noStar_ok h3 _ _)) k3 k2 (noStar_ok h3 _ _) rfl) pa_nil rfl) g3 g2 rfl rfl) fun σ H Q h => ?_
  obtain ⟨p, F, G, r, M, sr, er, h⟩ := h
  refine ⟨p, F, G, r, M, sr, er, (Tk.bind (rel := RD X.K ca) h).mono fun v H1 ⟨q1, F1, x, M1, a1, b1, s1, r1, _, hh⟩ => ?_⟩
  unfold setSortV at hh
  cases q : lsOf M1 x with
  | none => simp only [q] at hh; exact hh.elim
  | some l =>
    simp only [q, Option.bind_some] at hh
    cases q2 : mapO prI l with
    | none => simp only [q2] at hh; exact hh.elim
    | some ps =>
      simp only [q2] at hh
      obtain ⟨z1, z2⟩ := Tk.okIf hh
      obtain ⟨b, vs, rfl, c1, c2⟩ := lsOf_ok s1 r1 q
      obtain ⟨ks, e1, e2, e3⟩ := prs_of c2 q2
      subst e1
      have lk : ks.length ≤ 300 := by
        have := of_decide_eq_true z1
        rw [← e2, List.length_map] at this
        exact this
      refine ⟨b, ks, rfl, SqL.of c1, fun y hy => sqT_sub s1.fr (e3 y hy).1, lk, fun ad L hn sub all nd => ?_⟩
      have s2 := s1.grow (upd_grow (o := Tq.SGO X.prog X.w ad L) hn)
      refine ⟨ad, L, rfl, upd_same, fun y hy => ⟨sqT_sub s2.fr (e3 y (sub y hy)).1, (e3 y (sub y hy)).2⟩, fun N b' pm pw hb => ?_⟩
      obtain ⟨w1, w2⟩ := s2.newF (o := .lst (N.map fun y => V.ref y.1)) hb
      have n1 : ∀ y : Addr × List Int, y ∈ N → y ∈ ks := fun y hy => sub y (pm.mem_iff.mp hy)
      have eN : (N.map fun y => Tq.pr2 y.2) = sortP (ndP ps) := by
        refine sortP_uniq (List.Perm.trans ?_ (sortP_perm _).symm) ?_ (sortP_sorted _)
        · refine (List.perm_ext_iff_of_nodup ?_ (ndP_nodup _)).mpr fun y => ?_
          · have n2 : (N.map (·.2)).Nodup := (pm.map (·.2)).nodup_iff.mpr nd
            exact List.pairwise_map.mpr (List.Pairwise.imp_of_mem (fun {u v} hu hv hne e => hne (pr2_inj (e3 u (n1 u hu)).2 (e3 v (n1 v hv)).2 e)) (List.pairwise_map.mp n2))
          · rw [ndP_mem, ← e2, List.mem_map, List.mem_map]
            constructor
            · rintro ⟨u, hu, e⟩
              exact ⟨u, n1 u hu, e⟩
            · rintro ⟨u, hu, e⟩
              obtain ⟨z, hz, ez⟩ := List.mem_map.mp (all u hu)
              exact ⟨z, pm.mem_iff.mpr hz, by rw [ez]; exact e⟩
        · exact List.pairwise_map.mpr (pw.imp fun h => h)
      have rr := prs_RDs (K := X.K) (ca := ca) (p := q1) (F := F1) (ks := N) fun y hy => e3 y (n1 y hy)
      rw [eN] at rr
      have e5 : D.t (.lst ((sortP (ndP ps)).map pr2T)) = frzL ((sortP (ndP ps)).map fun y => D.t (pr2T y)) := by
        rw [show ((sortP (ndP ps)).map fun y => D.t (pr2T y)) = ((sortP (ndP ps)).map pr2T).map D.t by rw [List.map_map]; rfl, frzL_of]
      rw [e5] at z2
      exact z2 _ _ _ _ (Pre.refl _) w1 w2 (RDs.frzL (RDs.sub (Pre.refl _) w1 _ _ rr) upd_same)
end
end Rw
end
section
set_option Elab.async false
set_option linter.all false
set_option maxRecDepth 100000
namespace Rw
open PySem PySem.Spec PyProof.Rows L2
theorem nb {a : Bool} (h : (!a) = true) : a = false := by simpa using h
theorem ba2 {a b : Bool} (h : (a && b) = true) : a = true ∧ b = true := Bool.and_eq_true_iff.mp h
section
variable {P : Pg} {fns : Nat → Option Fn} {ca fa : Nat → Addr} {fdt : Nat → FuncData} {C : Cal} {k : Nat} {X : Cx} {N : List Str} {sc : Scope} {W : XK}
def Both (ca : Nat → Addr) (C : Cal) (X : Cx) (W : XK) (x : Ex) (e : Expr) : Prop := SE ca C X W x e ∧ (noIf e = true → ST ca C X W x e)
/-- item by item -/
inductive Boths (ca : Nat → Addr) (C : Cal) (X : Cx) (W : XK) : List Ex → List Expr → Prop
  | nil : Boths ca C X W [] []
  | cons {x : Ex} {e : Expr} {xs : List Ex} {es : List Expr} : Both ca C X W x e → Boths ca C X W xs es → Boths ca C X W (x :: xs) (e :: es)
theorem Boths.sa : ∀ {xs : List Ex} {es : List Expr}, Boths ca C X W xs es → es.all noStar = true → SA ca C X W xs es
  | _, _, .nil, _ => s_nil
  | _, _, .cons h t, hs => by
    simp only [List.all_cons, Bool.and_eq_true] at hs
    exact s_cons hs.1 h.1 (Boths.sa t hs.2)
theorem Boths.len : ∀ {xs : List Ex} {es : List Expr}, Boths ca C X W xs es → xs.length = es.length
  | _, _, .nil => rfl
  | _, _, .cons _ t => by rw [List.length_cons, List.length_cons, Boths.len t]
theorem Boths.and {pos : Pos} : ∀ {x : Ex} {xs : List Ex} {e : Expr} {es : List Expr}, Boths ca C X W (x :: xs) (e :: es) → PE X (.BoolOp .And (e :: es) pos) (TEo X.K ca W (evAnd C (x :: xs)))
  | x, [], e, _, .cons h t => by
    cases t
    exact s_one h.1
  | x, y :: xs, e, _, .cons h t => by
    cases t with
    | cons h2 t2 => exact s_and h.1 (Boths.and (.cons h2 t2))
theorem Boths.or {pos : Pos} : ∀ {x : Ex} {xs : List Ex} {e : Expr} {es : List Expr}, Boths ca C X W (x :: xs) (e :: es) → PE X (.BoolOp .Or (e :: es) pos) (TEo X.K ca W (evOr C (x :: xs)))
  | x, [], e, _, .cons h t => by
    cases t
    exact s_one h.1
  | x, y :: xs, e, _, .cons h t => by
    cases t with
    | cons h2 t2 => exact s_or h.1 (Boths.or (.cons h2 t2))
theorem Boths.andT {pos : Pos} : ∀ {x : Ex} {xs : List Ex} {e : Expr} {es : List Expr}, Boths ca C X W (x :: xs) (e :: es) → (e :: es).all noIf = true → PW X (.BoolOp .And (e :: es) pos) (TTo X.K ca W (fun r M => (evAnd C (x :: xs) r M).bind truV))
  | x, [], e, _, .cons h t, hs => by
    cases t
    exact s_oneTA (h.2 (by simpa using hs))
  | x, y :: xs, e, _, .cons h t, hs => by
    cases t with
    | cons h2 t2 =>
      rw [List.all_cons] at hs
      obtain ⟨z1, z2⟩ := ba2 hs
      exact s_andT (h.2 z1) (Boths.andT (.cons h2 t2) z2)
theorem Boths.orT {pos : Pos} : ∀ {x : Ex} {xs : List Ex} {e : Expr} {es : List Expr}, Boths ca C X W (x :: xs) (e :: es) → (e :: es).all noIf = true → PW X (.BoolOp .Or (e :: es) pos) (TTo X.K ca W (fun r M => (evOr C (x :: xs) r M).bind truV))
  | x, [], e, _, .cons h t, hs => by
    cases t
    exact s_oneTO (h.2 (by simpa using hs))
  | x, y :: xs, e, _, .cons h t, hs => by
    cases t with
    | cons h2 t2 =>
      rw [List.all_cons] at hs
      obtain ⟨z1, z2⟩ := ba2 hs
      exact s_orT (h.2 z1) (Boths.orT (.cons h2 t2) z2)
theorem Boths.pps {pd : Pos} : ∀ {ks : List Str} {keys : List (Option Expr)} {es : List Ex} {vals : List Expr}, Boths ca C X W es vals → chkKs ks keys = true → ks.length = es.length →
    PPs X pd keys vals (trsOf ca C X W ks es) ∧ keys.all (·.isSome) = true ∧ keys.length = vals.length
  | [], keys, es, _, b, h, hl => by
    cases b with
    | nil =>
      cases keys with
      | nil => exact ⟨pps_nil, rfl, rfl⟩
      | cons z zs => simp [chkKs] at h
    | cons _ _ => cases hl
  | s :: ks, keys, es, _, b, h, hl => by
    cases b with
    | nil => cases hl
    | cons h1 t =>
      unfold chkKs at h
      split at h
      · contradiction
      · rename_i k' ks' x j pos r heq
        cases heq
        obtain ⟨z1, z2⟩ := ba2 h
        have e1 := of_decide_eq_true z1
        subst e1
        obtain ⟨i1, i2, i3⟩ := Boths.pps (pd := pd) t z2 (by simpa using hl)
        exact ⟨pps_cons pe_str h1.1 i1, by rw [List.all_cons, i2]; rfl, by rw [List.length_cons, List.length_cons, i3]⟩
      · cases h
theorem both_val {x : Ex} {e : Expr} (h : SE ca C X W x e) (hp : plainT e = true) : Both ca C X W x e := ⟨h, fun _ => s_valT hp h⟩
end
section
variable {P : Pg} {fns : Nat → Option Fn} {ca fa : Nat → Addr} {fdt : Nat → FuncData} {C : Cal} {k : Nat} {N : List Str}
theorem s_bi {X : Cx} {sc : Scope} {W : XK} (g : Good P fns ca fa fdt C k X N sc W) {f : BiK} {es : List Ex} {x : Str} {es' : List Expr} {pp pos : Pos} (h1 : glB sc x = true) (h2 : biB sc f x es' = true) (h3 : es'.all noStar = true) (h4 : Boths ca C X W es (biArgs f es')) :
    SE ca C X W (.bi f es) (.Call (.Name x pp) es' [] pos) := by
  unfold biB at h2
  split at h2
  · have e := of_decide_eq_true h2
    subst e
    cases h4 with | cons a t => cases t; exact s_biB g c_len (by decide) PySem.boot_len h1 h3 ((Boths.cons a .nil).sa h3)
  · have e := of_decide_eq_true h2
    subst e
    cases h4 with | cons a t => cases t; exact s_biT g c_int (by decide) PyProof.Rows.boot_int h1 h3 ((Boths.cons a .nil).sa h3)
  · have e := of_decide_eq_true h2
    subst e
    cases h4 with | cons a t => cases t; exact s_biT g (c_list _) (by decide) PyProof.Rows.boot_list h1 h3 ((Boths.cons a .nil).sa h3)
  · have e := of_decide_eq_true h2
    subst e
    cases h4 with | cons a t => cases t; exact s_biT g c_tuple (by decide) PyProof.Rows.boot_tuple h1 h3 ((Boths.cons a .nil).sa h3)
  · have e := of_decide_eq_true h2
    subst e
    cases h4 with | cons a t => cases t with | cons b t => cases t; exact s_biB g (c_min2 g.calm) (by decide) PyProof.Rows.boot_min h1 h3 ((Boths.cons a (.cons b .nil)).sa h3)
  · have e := of_decide_eq_true h2
    subst e
    cases h4 with | cons a t => cases t with | cons b t => cases t; exact s_biB g (c_max2 g.calm) (by decide) PyProof.Rows.boot_max h1 h3 ((Boths.cons a (.cons b .nil)).sa h3)
  · have e := of_decide_eq_true h2
    subst e
    cases h4 with | cons a t => cases t; exact s_biT g c_str (by decide) PyProof.Rows.boot_str h1 h3 ((Boths.cons a .nil).sa h3)
  · have e := of_decide_eq_true h2
    subst e
    cases h4 with | cons a t => cases t; exact s_biB g (c_sum g.calm) (by decide) PyProof.Rows.boot_sum h1 h3 ((Boths.cons a .nil).sa h3)
  · have e := of_decide_eq_true h2
    subst e
    cases h4 with | cons a t => cases t; exact s_biB g (c_minP g.calm g.hu) (by decide) PyProof.Rows.boot_min h1 h3 ((Boths.cons a .nil).sa h3)
  · have e := of_decide_eq_true h2
    subst e
    cases h4 with | cons a t => cases t; exact s_biB g (c_sortD g.calm) (by decide) (by decide +kernel) h1 h3 ((Boths.cons a .nil).sa h3)
  · have e := of_decide_eq_true h2
    subst e
    cases h4 with | cons a t => cases t; exact s_biT g (c_dictP g.calm _) (by decide) PyProof.Rows.boot_dict h1 h3 ((Boths.cons a .nil).sa h3)
  · obtain ⟨z1, z3⟩ := ba2 h2
    obtain ⟨z1, z2⟩ := ba2 z1
    have e := of_decide_eq_true z1
    have e2 := of_decide_eq_true z2
    subst e e2
    simp only [List.all_cons, Bool.and_eq_true] at h3
    cases h4 with | cons a t => cases t; exact s_isi g kit_str (fun _ _ => rfl) (by decide) PyProof.Rows.boot_str z3 h1 h3.1 a.1
  · obtain ⟨z1, z3⟩ := ba2 h2
    obtain ⟨z1, z2⟩ := ba2 z1
    have e := of_decide_eq_true z1
    have e2 := of_decide_eq_true z2
    subst e e2
    simp only [List.all_cons, Bool.and_eq_true] at h3
    cases h4 with | cons a t => cases t; exact s_isi g kit_int (fun _ _ => rfl) (by decide) PyProof.Rows.boot_int z3 h1 h3.1 a.1
  · obtain ⟨z1, z3⟩ := ba2 h2
    obtain ⟨z1, z2⟩ := ba2 z1
    have e := of_decide_eq_true z1
    have e2 := of_decide_eq_true z2
    subst e e2
    simp only [List.all_cons, Bool.and_eq_true] at h3
    cases h4 with | cons a t => cases t; exact s_isi g kit_bool (fun _ _ => rfl) (by decide) PyProof.Rows.boot_bool z3 h1 h3.1 a.1
  · obtain ⟨z1, z3⟩ := ba2 h2
    obtain ⟨z1, z2⟩ := ba2 z1
    have e := of_decide_eq_true z1
    have e2 := of_decide_eq_true z2
    subst e e2
    simp only [List.all_cons, Bool.and_eq_true] at h3
    cases h4 with | cons a t => cases t; exact s_isi g kit_list (fun _ _ => rfl) (by decide) PyProof.Rows.boot_list z3 h1 h3.1 a.1
  · obtain ⟨z1, z5⟩ := ba2 h2
    obtain ⟨z1, z4⟩ := ba2 z1
    obtain ⟨z1, z3⟩ := ba2 z1
    obtain ⟨z1, z2⟩ := ba2 z1
    have e := of_decide_eq_true z1
    have e2 := of_decide_eq_true z2
    have e3 := of_decide_eq_true z3
    subst e e2 e3
    simp only [List.all_cons, Bool.and_eq_true] at h3
    cases h4 with | cons a t => cases t; exact s_isiT g z4 z5 h1 h3.1 a.1
  · cases h2
theorem s_meAll {X : Cx} {W : XK} {m : MeK} {o : Ex} {es : List Ex} {x : Str} {o' : Expr} {es' : List Expr} {ap cp : Pos} (h1 : noSuper o' = true) (h2 : (ap.endLine == cp.line) = true) (h3 : es'.all noStar = true) (h4 : SE ca C X W o o') (h5 : meB m x es' = true) (h6 : Boths ca C X W es es') :
    SE ca C X W (.me m o es) (.Call (.Attribute o' x ap) es' [] cp) := by
  unfold meB at h5
  split at h5
  · have e := of_decide_eq_true h5
    subst e
    cases h6 with | cons a t => cases t; exact s_me PySem.F.slot_list_append PySem.F.type_list_append m_append h1 h2 rfl h3 h4 ((Boths.cons a .nil).sa h3)
  · have e := of_decide_eq_true h5
    subst e
    cases h6 with | cons a t => cases t; exact s_me PySem.F.slot_list_extend PySem.F.type_list_extend m_extend h1 h2 rfl h3 h4 ((Boths.cons a .nil).sa h3)
  · have e := of_decide_eq_true h5
    subst e
    cases h6; exact s_me0 PySem.F.slot_list_pop PySem.F.type_list_pop m_pop h1 h2 h4
  · cases h5
mutual
theorem soundE : ∀ (x : Ex) (X : Cx) (sc : Scope) (W : XK) (e : Expr), Good P fns ca fa fdt C k X N sc W → chkE P fns N sc x e = true → Both ca C X W x e
  | .var i, X, sc, W, e, g, h => by
    unfold chkE at h
    split at h
    · obtain ⟨h, h4⟩ := ba2 h
      obtain ⟨h, h3⟩ := ba2 h
      obtain ⟨h1, h2⟩ := ba2 h
      exact both_val (s_var g (of_decide_eq_true h1) h2 (by simpa using h3) (by simpa using h4)) rfl
    · cases h
  | .con t, X, sc, W, e, g, h => by
    unfold chkE at h
    split at h
    · exact both_val (s_con h) rfl
    · cases h
  | .glo t, X, sc, W, e, g, h => by
    unfold chkE at h
    split at h
    · obtain ⟨h1, h2⟩ := ba2 h
      exact both_val (s_glo g (hasCon_ok h1) h2) rfl
    · cases h
  | .bad, X, sc, W, e, g, h => ⟨s_bad, fun _ => s_badT⟩
  | .bin o mu a b, X, sc, W, e, g, h => by
    unfold chkE at h
    split at h
    · obtain ⟨h, h3⟩ := ba2 h
      obtain ⟨h1, h2⟩ := ba2 h
      exact both_val (s_bin h1 (soundE a X sc W _ g h2).1 (soundE b X sc W _ g h3).1) rfl
    · cases h
  | .neg a, X, sc, W, e, g, h => by
    unfold chkE at h
    split at h
    · exact both_val (s_neg (soundE a X sc W _ g h).1) rfl
    · cases h
  | .cmp o a b, X, sc, W, e, g, h => by
    unfold chkE at h
    split at h
    · obtain ⟨h, h4⟩ := ba2 h
      obtain ⟨h, h3⟩ := ba2 h
      obtain ⟨h1, h2⟩ := ba2 h
      have h2' := nb h2
      have A := (soundE a X sc W _ g h3).1
      have B := (soundE b X sc W _ g h4).1
      exact ⟨s_cmp g h1 h2' A B, fun _ => s_cmpT g h1 h2' A B⟩
    · cases h
  | .isN yes a, X, sc, W, e, g, h => by
    unfold chkE at h
    split at h
    · rename_i a' op j pos' pos
      obtain ⟨h1, h2⟩ := ba2 h
      have A := (soundE a X sc W _ g h2).1
      have ho : op = if yes then .Is else .IsNot := by
        cases yes <;> cases op <;> first | rfl | cases h1
      exact ⟨s_isN ho A, fun _ => s_isNT ho A⟩
    · cases h
  | .chain o1 o2 a b c, X, sc, W, e, g, h => by
    unfold chkE at h
    split at h
    · obtain ⟨h, h6⟩ := ba2 h
      obtain ⟨h, h5⟩ := ba2 h
      obtain ⟨h, h4⟩ := ba2 h
      obtain ⟨h, h3⟩ := ba2 h
      obtain ⟨h1, h2⟩ := ba2 h
      have h3' := nb h3
      have A := (soundE a X sc W _ g h4).1
      have B := (soundE b X sc W _ g h5).1
      have D := (soundE c X sc W _ g h6).1
      exact ⟨s_chain g h1 h2 h3' A B D, fun _ => s_chainT g h1 h2 h3' A B D⟩
    · cases h
  | .and es, X, sc, W, e, g, h => by
    unfold chkE at h
    split at h
    · obtain ⟨h, h3⟩ := ba2 h
      obtain ⟨h1, h2⟩ := ba2 h
      have B := soundEs es X sc W _ g h1
      cases B with
      | nil => cases h3
      | cons a t => exact ⟨(Boths.cons a t).and, fun _ => ((Boths.cons a t).andT h2).pt⟩
    · cases h
  | .or es, X, sc, W, e, g, h => by
    unfold chkE at h
    split at h
    · obtain ⟨h, h3⟩ := ba2 h
      obtain ⟨h1, h2⟩ := ba2 h
      have B := soundEs es X sc W _ g h1
      cases B with
      | nil => cases h3
      | cons a t => exact ⟨(Boths.cons a t).or, fun _ => ((Boths.cons a t).orT h2).pt⟩
    · cases h
  | .not a, X, sc, W, e, g, h => by
    unfold chkE at h
    split at h
    · obtain ⟨h1, h2⟩ := ba2 h
      have A := soundE a X sc W _ g h2
      exact ⟨s_not A.1, fun _ => s_notT (A.2 h1)⟩
    · cases h
  | .ife c a b, X, sc, W, e, g, h => by
    unfold chkE at h
    split at h
    · obtain ⟨h, h4⟩ := ba2 h
      obtain ⟨h, h3⟩ := ba2 h
      obtain ⟨h1, h2⟩ := ba2 h
      exact ⟨s_ife ((soundE c X sc W _ g h2).2 h1) (soundE a X sc W _ g h3).1 (soundE b X sc W _ g h4).1, fun z => by cases z⟩
    · cases h
  | .list mu es, X, sc, W, e, g, h => by
    unfold chkE at h
    split at h
    · obtain ⟨h1, h2⟩ := ba2 h
      exact both_val (s_list ((soundEs es X sc W _ g h1).sa h2)) rfl
    · cases h
  | .tuple es, X, sc, W, e, g, h => by
    unfold chkE at h
    split at h
    · obtain ⟨h1, h2⟩ := ba2 h
      exact both_val (s_tuple ((soundEs es X sc W _ g h1).sa h2)) rfl
    · cases h
  | .idx a b, X, sc, W, e, g, h => by
    unfold chkE at h
    split at h
    · obtain ⟨h, h3⟩ := ba2 h
      obtain ⟨h1, h2⟩ := ba2 h
      exact both_val (s_idx g h1 (soundE a X sc W _ g h2).1 (soundE b X sc W _ g h3).1) rfl
    · cases h
  | .slc mu a lo hi, X, sc, W, e, g, h => by
    unfold chkE at h
    split at h
    · obtain ⟨h, h3⟩ := ba2 h
      obtain ⟨h1, h2⟩ := ba2 h
      exact both_val (s_slc (soundE a X sc W _ g h1).1 (soundO lo X sc W _ g h2) (soundO hi X sc W _ g h3)) rfl
    · cases h
  | .bi f es, X, sc, W, e, g, h => by
    unfold chkE at h
    split at h
    · obtain ⟨h, h4⟩ := ba2 h
      obtain ⟨h, h3⟩ := ba2 h
      obtain ⟨h1, h2⟩ := ba2 h
      exact both_val (s_bi g h1 h2 h3 (soundEs es X sc W _ g h4)) rfl
    · cases h
  | .me m o es, X, sc, W, e, g, h => by
    unfold chkE at h
    split at h
    · obtain ⟨h, h6⟩ := ba2 h
      obtain ⟨h, h5⟩ := ba2 h
      obtain ⟨h, h4⟩ := ba2 h
      obtain ⟨h, h3⟩ := ba2 h
      obtain ⟨h1, h2⟩ := ba2 h
      exact both_val (s_meAll h1 h2 h3 (soundE o X sc W _ g h4).1 h5 (soundEs es X sc W _ g h6)) rfl
    · cases h
  | .call m f es, X, sc, W, e, g, h => by
    unfold chkE at h
    split at h
    · obtain ⟨h, h5⟩ := ba2 h
      obtain ⟨h, h4⟩ := ba2 h
      obtain ⟨h, h3⟩ := ba2 h
      obtain ⟨h1, h2⟩ := ba2 h
      cases q : fns f with
      | none => simp only [q] at h4; cases h4
      | some fn =>
        simp only [q] at h4
        have B := soundEs es X sc W _ g h5
        cases B with
        | nil => exact both_val (s_call0 g q h4 (of_decide_eq_true h2) h1) rfl
        | cons a t => exact both_val (s_call g q h4 (of_decide_eq_true h2) h1 h3 ((Boths.cons a t).sa h3)) rfl
    · cases h
  | .meth c m f o es, X, sc, W, e, g, h => by
    unfold chkE at h
    split at h
    · obtain ⟨h, h9⟩ := ba2 h
      obtain ⟨h, h8⟩ := ba2 h
      obtain ⟨h, h7⟩ := ba2 h
      obtain ⟨h, h6⟩ := ba2 h
      obtain ⟨h, h5⟩ := ba2 h
      obtain ⟨h, h4⟩ := ba2 h
      obtain ⟨h, h3⟩ := ba2 h
      obtain ⟨h1, h2⟩ := ba2 h
      have e1 := of_decide_eq_true h1
      subst e1
      have mc := fun m => mc_eq (env := X.env) (m := m) h3 h5 h6 h4
      cases q : fns f with
      | none => simp only [q] at h7; cases h7
      | some fn =>
        simp only [q] at h7
        have B := soundEs es X sc W _ g h9
        have O := (soundE o X sc W _ g h8).1
        cases B with
        | nil => exact both_val (s_meth0 g q h7 (of_decide_eq_true h2) h3 (mc _) O) rfl
        | cons a t => exact both_val (s_meth g q h7 (of_decide_eq_true h2) h3 h5 (mc _) O ((Boths.cons a t).sa h5)) rfl
    · cases h
  | .make c f es, X, sc, W, e, g, h => by
    unfold chkE at h
    split at h
    · obtain ⟨h, h5⟩ := ba2 h
      obtain ⟨h, h4⟩ := ba2 h
      obtain ⟨h, h3⟩ := ba2 h
      obtain ⟨h1, h2⟩ := ba2 h
      cases q : fns f with
      | none => simp only [q] at h4; cases h4
      | some fn =>
        simp only [q] at h4
        have B := soundEs es X sc W _ g h5
        cases B with
        | nil => exact both_val (s_make0 g q h4 (of_decide_eq_true h2) h1) rfl
        | cons a t => exact both_val (s_make g q h4 (of_decide_eq_true h2) h1 h3 ((Boths.cons a t).sa h3)) rfl
    · cases h
  | .makeF c f es, X, sc, W, e, g, h => by
    unfold chkE at h
    split at h
    · obtain ⟨h, h5⟩ := ba2 h
      obtain ⟨h, h4⟩ := ba2 h
      obtain ⟨h, h3⟩ := ba2 h
      obtain ⟨h, h2⟩ := ba2 h
      obtain ⟨h0, h1⟩ := ba2 h
      cases q : fns f with
      | none => simp only [q] at h4; cases h4
      | some fn =>
        simp only [q] at h4
        have B := soundEs es X sc W _ g h5
        cases B with
        | nil => cases h0
        | cons a t => exact both_val (s_makeF g q h4 (of_decide_eq_true h2) h1 h3 ((Boths.cons a t).sa h3)) rfl
    · cases h
  | .attr c o f, X, sc, W, e, g, h => by
    unfold chkE at h
    split at h
    · obtain ⟨h, h4⟩ := ba2 h
      obtain ⟨h, h3⟩ := ba2 h
      obtain ⟨h1, h2⟩ := ba2 h
      have e1 := of_decide_eq_true h1
      subst e1
      exact both_val (s_attr g (of_decide_eq_true h2) h3 (soundE o X sc W _ g h4).1) rfl
    · cases h
  | .pick ks es i, X, sc, W, e, g, h => by
    unfold chkE at h
    split at h
    · obtain ⟨h, h8⟩ := ba2 h
      obtain ⟨h, h7⟩ := ba2 h
      obtain ⟨h, h6⟩ := ba2 h
      obtain ⟨h, h5⟩ := ba2 h
      obtain ⟨h, h4⟩ := ba2 h
      obtain ⟨h, h3⟩ := ba2 h
      obtain ⟨h1, h2⟩ := ba2 h
      have B := soundEs es X sc W _ g h7
      have l1 := of_decide_eq_true h3
      have l2 := of_decide_eq_true h4
      obtain ⟨p1, p2, p3⟩ := B.pps (pd := _) h6 l1
      have k0 := of_decide_eq_true h5
      refine both_val (s_pick g (of_decide_eq_true h2) l1 l2 p1 p2 p3 ?_ (by rw [p3, ← B.len]; exact l2) h1 (soundE i X sc W _ g h8).1) rfl
      intro z
      subst z
      have : 0 = es.length := by rw [B.len, ← p3]; rfl
      rw [← l1] at this
      exact k0 (List.length_eq_zero_iff.mp this.symm)
    · cases h
  | .tabIn yes l a, X, sc, W, e, g, h => by
    unfold chkE at h
    split at h
    · rename_i a' op x pp pos
      obtain ⟨h, h4⟩ := ba2 h
      obtain ⟨h, h3⟩ := ba2 h
      obtain ⟨h1, h2⟩ := ba2 h
      have A := (soundE a X sc W _ g h4).1
      have ho : op = if yes then .In else .NotIn := by
        cases yes <;> cases op <;> first | rfl | cases h3
      exact ⟨s_tabIn g (hasTab_ok h1) h2 ho A, fun _ => s_tabInT g (hasTab_ok h1) h2 ho A⟩
    · cases h
  | .tabGet l a, X, sc, W, e, g, h => by
    unfold chkE at h
    split at h
    · obtain ⟨h, h4⟩ := ba2 h
      obtain ⟨h, h3⟩ := ba2 h
      obtain ⟨h1, h2⟩ := ba2 h
      exact both_val (s_tabGet g (hasTab_ok h1) h2 h3 (soundE a X sc W _ g h4).1) rfl
    · cases h
  | .dict mu, X, sc, W, e, g, h => by
    unfold chkE at h
    split at h
    · exact both_val s_dict rfl
    · cases h
  | .get1 d a, X, sc, W, e, g, h => by
    unfold chkE at h
    split at h
    · obtain ⟨h, h6⟩ := ba2 h
      obtain ⟨h, h5⟩ := ba2 h
      obtain ⟨h, h4⟩ := ba2 h
      obtain ⟨h, h3⟩ := ba2 h
      obtain ⟨h1, h2⟩ := ba2 h
      have e1 := of_decide_eq_true h1
      subst e1
      exact both_val (s_get1 g h2 h3 h4 (soundE d X sc W _ g h5).1 (soundE a X sc W _ g h6).1) rfl
    · cases h
  | .get2 d a b, X, sc, W, e, g, h => by
    unfold chkE at h
    split at h
    · obtain ⟨h, h8⟩ := ba2 h
      obtain ⟨h, h7⟩ := ba2 h
      obtain ⟨h, h6⟩ := ba2 h
      obtain ⟨h, h5⟩ := ba2 h
      obtain ⟨h, h4⟩ := ba2 h
      obtain ⟨h, h3⟩ := ba2 h
      obtain ⟨h1, h2⟩ := ba2 h
      have e1 := of_decide_eq_true h1
      subst e1
      exact both_val (s_get2 g h2 h3 h4 h5 (soundE d X sc W _ g h6).1 (soundE a X sc W _ g h7).1 (soundE b X sc W _ g h8).1) rfl
    · cases h
  | .pickG ks es i b, X, sc, W, e, g, h => by
    unfold chkE at h
    split at h
    · obtain ⟨h, h12⟩ := ba2 h
      obtain ⟨h, h8⟩ := ba2 h
      obtain ⟨h, h7⟩ := ba2 h
      obtain ⟨h, h6⟩ := ba2 h
      obtain ⟨h, h5⟩ := ba2 h
      obtain ⟨h, h4⟩ := ba2 h
      obtain ⟨h, h3⟩ := ba2 h
      obtain ⟨h, h2⟩ := ba2 h
      obtain ⟨h, h11⟩ := ba2 h
      obtain ⟨h, h10⟩ := ba2 h
      obtain ⟨h1, h9⟩ := ba2 h
      have e1 := of_decide_eq_true h1
      subst e1
      have B := soundEs es X sc W _ g h7
      have l1 := of_decide_eq_true h3
      have l2 := of_decide_eq_true h4
      obtain ⟨p1, p2, p3⟩ := B.pps (pd := _) h6 l1
      have k0 := of_decide_eq_true h5
      refine both_val (s_pickG g (of_decide_eq_true h2) l1 l2 p1 p2 p3 ?_ (by rw [p3, ← B.len]; exact l2) (m2_of rfl h9 h10 h11) (soundE i X sc W _ g h8).1 (soundE b X sc W _ g h12).1) rfl
      intro z
      subst z
      have : 0 = es.length := by rw [B.len, ← p3]; rfl
      rw [← l1] at this
      exact k0 (List.length_eq_zero_iff.mp this.symm)
    · cases h
  | .split a b, X, sc, W, e, g, h => by
    unfold chkE at h
    split at h
    · obtain ⟨h, h6⟩ := ba2 h
      obtain ⟨h, h5⟩ := ba2 h
      obtain ⟨h, h4⟩ := ba2 h
      obtain ⟨h, h3⟩ := ba2 h
      obtain ⟨h1, h2⟩ := ba2 h
      have e1 := of_decide_eq_true h1
      subst e1
      exact both_val (s_split h2 h3 h4 (soundE a X sc W _ g h5).1 (soundE b X sc W _ g h6).1) rfl
    · cases h
  | .join a b, X, sc, W, e, g, h => by
    unfold chkE at h
    split at h
    · obtain ⟨h, h6⟩ := ba2 h
      obtain ⟨h, h5⟩ := ba2 h
      obtain ⟨h, h4⟩ := ba2 h
      obtain ⟨h, h3⟩ := ba2 h
      obtain ⟨h1, h2⟩ := ba2 h
      have e1 := of_decide_eq_true h1
      subst e1
      exact both_val (s_join h2 h3 h4 (soundE a X sc W _ g h5).1 (soundE b X sc W _ g h6).1) rfl
    · cases h
  | .comp mu tg s c e0, X, sc, W, e, g, h => by
    unfold chkE at h
    split at h
    · rename_i e' tg' it ifs scope pos
      obtain ⟨h, h7⟩ := ba2 h
      obtain ⟨h, h6⟩ := ba2 h
      obtain ⟨h, h5⟩ := ba2 h
      obtain ⟨h, h4⟩ := ba2 h
      obtain ⟨h, h3⟩ := ba2 h
      obtain ⟨h1, h2⟩ := ba2 h
      refine both_val (PE.imp (pe_lc (own := ownOf N tg.slots) (g := TGo X.K ca tg) (tt := TTo X.K ca W0 (evC C c)) (te := TEo X.K ca W0 (evE C e0)) g.calm (by rw [g.hN]; exact g.nd) (soundSr s X sc W tg' it g h5) (by rw [g.hN, g.hsc]; exact blkOk_by h3) (fun s1 H1 C1 cl fp => ?_) (fun s1 H1 C1 cl fp => ?_) (fun s1 H1 C1 cl fp => ?_) (noSet_ok h1 _)) fun σ H Q q => ?_) rfl
      · have g' := g.blk s1 H1 scope C1 cl fp
        exact s_tg (X := X.blk s1 H1 scope (compEnvC scope cl C1 X.env) fp) g'.hN g'.nd g'.hsc g'.calm (fun x hx => blkFb_ok hx) tg tg' h4
      · exact soundC c (X.blk s1 H1 scope (compEnvC scope cl C1 X.env) fp) (relS scope sc) W0 ifs (g.blk s1 H1 scope C1 cl fp) h6
      · exact (soundE e0 (X.blk s1 H1 scope (compEnvC scope cl C1 X.env) fp) (relS scope sc) W0 e' (g.blk s1 H1 scope C1 cl fp) h7).1
      · rw [ownOf_map h2]
        exact comp_step q
    · cases h
  | .lenSet a, X, sc, W, e, g, h => by
    unfold chkE at h
    split at h
    · obtain ⟨h, h6⟩ := ba2 h
      obtain ⟨h, h5⟩ := ba2 h
      obtain ⟨h, h4⟩ := ba2 h
      obtain ⟨h, h3⟩ := ba2 h
      obtain ⟨h1, h2⟩ := ba2 h
      have e1 := of_decide_eq_true h1
      have e2 := of_decide_eq_true h2
      subst e1
      subst e2
      exact both_val (s_lenSet g h3 h4 h5 (soundE a X sc W _ g h6).1) rfl
    · cases h
  | .setSort a, X, sc, W, e, g, h => by
    unfold chkE at h
    split at h
    · obtain ⟨h, h6⟩ := ba2 h
      obtain ⟨h, h5⟩ := ba2 h
      obtain ⟨h, h4⟩ := ba2 h
      obtain ⟨h, h3⟩ := ba2 h
      obtain ⟨h1, h2⟩ := ba2 h
      have e1 := of_decide_eq_true h1
      have e2 := of_decide_eq_true h2
      subst e1
      subst e2
      exact both_val (s_setSort g h3 h4 h5 (soundE a X sc W _ g h6).1) rfl
    · cases h
  | .listZip es, X, sc, W, e, g, h => by
    unfold chkE at h
    split at h
    · obtain ⟨h, h6⟩ := ba2 h
      obtain ⟨h, h5⟩ := ba2 h
      obtain ⟨h, h4⟩ := ba2 h
      obtain ⟨h, h3⟩ := ba2 h
      obtain ⟨h1, h2⟩ := ba2 h
      have e1 := of_decide_eq_true h1
      have e2 := of_decide_eq_true h2
      subst e1
      subst e2
      have B := (soundEs es X sc W _ g h6).sa h5
      have L := soundEs es X sc W _ g h6
      cases L with
      | cons l1 t =>
        cases t with
        | cons l2 t2 =>
          cases t2
          exact both_val (s_listZip g h3 h4 h5 B) rfl
    · cases h
  | .listRng a b, X, sc, W, e, g, h => by
    unfold chkE at h
    split at h
    · obtain ⟨h, h8⟩ := ba2 h
      obtain ⟨h, h7⟩ := ba2 h
      obtain ⟨h, h6⟩ := ba2 h
      obtain ⟨h, h5⟩ := ba2 h
      obtain ⟨h, h4⟩ := ba2 h
      obtain ⟨h, h3⟩ := ba2 h
      obtain ⟨h1, h2⟩ := ba2 h
      have e1 := of_decide_eq_true h1
      have e2 := of_decide_eq_true h2
      subst e1
      subst e2
      exact both_val (s_listRng g h3 h4 h5 h6 (soundE a X sc W _ g h7).1 (soundE b X sc W _ g h8).1) rfl
    · cases h
  | .cntS a b, X, sc, W, e, g, h => by
    unfold chkE at h
    split at h
    · obtain ⟨h, h6⟩ := ba2 h
      obtain ⟨h, h5⟩ := ba2 h
      obtain ⟨h, h4⟩ := ba2 h
      obtain ⟨h, h3⟩ := ba2 h
      obtain ⟨h1, h2⟩ := ba2 h
      have e1 := of_decide_eq_true h1
      subst e1
      exact both_val (s_cntS h2 h3 h4 (soundE a X sc W _ g h5).1 (soundE b X sc W _ g h6).1) rfl
    · cases h
  | .cntL a b, X, sc, W, e, g, h => by
    unfold chkE at h
    split at h
    · obtain ⟨h, h6⟩ := ba2 h
      obtain ⟨h, h5⟩ := ba2 h
      obtain ⟨h, h4⟩ := ba2 h
      obtain ⟨h, h3⟩ := ba2 h
      obtain ⟨h1, h2⟩ := ba2 h
      have e1 := of_decide_eq_true h1
      subst e1
      exact both_val (s_cntL h2 h3 h4 (soundE a X sc W _ g h5).1 (soundE b X sc W _ g h6).1) rfl
    · cases h
  | .ixL a b, X, sc, W, e, g, h => by
    unfold chkE at h
    split at h
    · obtain ⟨h, h6⟩ := ba2 h
      obtain ⟨h, h5⟩ := ba2 h
      obtain ⟨h, h4⟩ := ba2 h
      obtain ⟨h, h3⟩ := ba2 h
      obtain ⟨h1, h2⟩ := ba2 h
      have e1 := of_decide_eq_true h1
      subst e1
      exact both_val (s_ixL h2 h3 h4 (soundE a X sc W _ g h5).1 (soundE b X sc W _ g h6).1) rfl
    · cases h
  | .srtI a, X, sc, W, e, g, h => by
    unfold chkE at h
    split at h
    · obtain ⟨h, h6⟩ := ba2 h
      obtain ⟨h, h5⟩ := ba2 h
      obtain ⟨h, h4⟩ := ba2 h
      obtain ⟨h, h3⟩ := ba2 h
      obtain ⟨h1, h2⟩ := ba2 h
      have e1 := of_decide_eq_true h1
      have e2 := of_decide_eq_true h2
      subst e1
      subst e2
      exact both_val (s_srtI g h3 h4 h5 (soundE a X sc W _ g h6).1) rfl
    · cases h
  | .repT a b, X, sc, W, e, g, h => by
    unfold chkE at h
    split at h
    · obtain ⟨h1, h2⟩ := ba2 h
      exact both_val (s_repT (soundE a X sc W _ g h1).1 (soundE b X sc W _ g h2).1) rfl
    · cases h
  | .compK mu tg i c e0, X, sc, W, e, g, h => by
    unfold chkE at h
    split at h
    · rename_i e' tg' x xp ifs scope pos
      obtain ⟨h, h7⟩ := ba2 h
      obtain ⟨h, h6⟩ := ba2 h
      obtain ⟨h, h5⟩ := ba2 h
      obtain ⟨h, h4⟩ := ba2 h
      obtain ⟨h, h3⟩ := ba2 h
      obtain ⟨h, k4⟩ := ba2 h
      obtain ⟨h, k3⟩ := ba2 h
      obtain ⟨k1, k2⟩ := ba2 h
      have pv := pe_var (X := X) (pos := xp) (by rw [g.hN]; exact of_decide_eq_true k1) (by rw [g.hsc]; exact visB_ok k2) (nb k3) (nb k4)
      have base := pe_lc (pos := pos) (own := ownOf N tg.slots) (g := TGo X.K ca tg) (tt := TTo X.K ca W0 (evC C c)) (te := TEo X.K ca W0 (evE C e0)) g.calm (by rw [g.hN]; exact g.nd) (pi_keys (tg := tg') pv) (by rw [g.hN, g.hsc]; exact blkOk_by h4)
        (fun s1 H1 C1 cl fp => by
          have g' := g.blk s1 H1 scope C1 cl fp
          exact s_tg (X := X.blk s1 H1 scope (compEnvC scope cl C1 X.env) fp) g'.hN g'.nd g'.hsc g'.calm (fun x hx => blkFb_ok hx) tg tg' h5)
        (fun s1 H1 C1 cl fp => soundC c (X.blk s1 H1 scope (compEnvC scope cl C1 X.env) fp) (relS scope sc) W0 ifs (g.blk s1 H1 scope C1 cl fp) h6)
        (fun s1 H1 C1 cl fp => (soundE e0 (X.blk s1 H1 scope (compEnvC scope cl C1 X.env) fp) (relS scope sc) W0 e' (g.blk s1 H1 scope C1 cl fp) h7).1)
        (noSet_ok (e := .Name x xp) rfl _)
      refine both_val (PE.imp (PE.or base (pe_lock base)) fun σ H Q q => ?_) rfl
      rw [ownOf_map h3]
      exact compK_step q
    · cases h
theorem soundEs : ∀ (es : List Ex) (X : Cx) (sc : Scope) (W : XK) (es' : List Expr), Good P fns ca fa fdt C k X N sc W → chkEs P fns N sc es es' = true → Boths ca C X W es es'
  | [], X, sc, W, es', g, h => by
    cases es' with
    | nil => exact .nil
    | cons a t => unfold chkEs at h; cases h
  | x :: es, X, sc, W, es', g, h => by
    cases es' with
    | nil => unfold chkEs at h; cases h
    | cons a t =>
      unfold chkEs at h
      obtain ⟨h1, h2⟩ := ba2 h
      exact .cons (soundE x X sc W a g h1) (soundEs es X sc W t g h2)
theorem soundO : ∀ (o : Option Ex) (X : Cx) (sc : Scope) (W : XK) (o' : Option Expr), Good P fns ca fa fdt C k X N sc W → chkO P fns N sc o o' = true → PO X o' (TOo X.K ca W (evO C o))
  | none, X, sc, W, o', g, h => by
    cases o' with
    | none => exact s_pnone
    | some a => unfold chkO at h; cases h
  | some x, X, sc, W, o', g, h => by
    cases o' with
    | none => unfold chkO at h; cases h
    | some a => unfold chkO at h; exact s_psome (soundE x X sc W a g h).1
theorem soundC : ∀ (c : Option Ex) (X : Cx) (sc : Scope) (W : XK) (ifs : List Expr), Good P fns ca fa fdt C k X N sc W → chkC P fns N sc c ifs = true → PTs X ifs (TTo X.K ca W (evC C c))
  | none, X, sc, W, ifs, g, h => by
    unfold chkC at h
    split at h
    · exact ⟨fun pins s σ H Q I q => pts_nil.run pins s σ H Q I (by
        obtain ⟨p, F, G, r, M, sr, er, q⟩ := q
        exact Tk.ok q sr rfl)⟩
    · contradiction
    · cases h
  | some x, X, sc, W, ifs, g, h => by
    unfold chkC at h
    split at h
    · contradiction
    · rename_i y a heq
      cases heq
      obtain ⟨h1, h2⟩ := ba2 h
      exact pts_one ((soundE x X sc W a g h2).2 h1)
    · cases h
theorem soundSr : ∀ (s : Sr) (X : Cx) (sc : Scope) (W : XK) (tg e : Expr), Good P fns ca fa fdt C k X N sc W → chkSr P fns N sc s tg e = true → SI ca C X W tg s e
  | .seq a, X, sc, W, tg, e, g, h => s_seq (soundE a X sc W e g h).1
  | .rng es, X, sc, W, tg, e, g, h => by
    unfold chkSr at h
    split at h
    · obtain ⟨h, h5⟩ := ba2 h
      obtain ⟨h, h4⟩ := ba2 h
      obtain ⟨h, h3⟩ := ba2 h
      obtain ⟨h1, h2⟩ := ba2 h
      have e1 := of_decide_eq_true h1
      subst e1
      have B := soundEs es X sc W _ g h4
      cases B with
      | nil => cases h5
      | cons a t =>
        simp only [List.all_cons, Bool.and_eq_true] at h3
        cases t with
        | nil => exact s_rng1 g h2 h3.1 a.1
        | cons b t =>
          simp only [List.all_cons, Bool.and_eq_true] at h3
          cases t with
          | nil => exact s_rng2 g h2 h3.1 h3.2.1 a.1 b.1
          | cons c t => simp at h5
    · cases h
  | .enu a, X, sc, W, tg, e, g, h => by
    unfold chkSr at h
    split at h
    · obtain ⟨h, h4⟩ := ba2 h
      obtain ⟨h, h3⟩ := ba2 h
      obtain ⟨h1, h2⟩ := ba2 h
      have e1 := of_decide_eq_true h1
      subst e1
      exact s_enu g h2 h3 (soundE a X sc W _ g h4).1
    · cases h
  | .tab l, X, sc, W, tg, e, g, h => by
    unfold chkSr at h
    split at h
    · obtain ⟨h, h3⟩ := ba2 h
      obtain ⟨h1, h2⟩ := ba2 h
      exact s_tab g (hasTab_ok h1) (of_decide_eq_true h2) h3
    · cases h
  | .zip a b, X, sc, W, tg, e, g, h => by
    unfold chkSr at h
    split at h
    · obtain ⟨h, h6⟩ := ba2 h
      obtain ⟨h, h5⟩ := ba2 h
      obtain ⟨h, h4⟩ := ba2 h
      obtain ⟨h, h3⟩ := ba2 h
      obtain ⟨h1, h2⟩ := ba2 h
      have e1 := of_decide_eq_true h1
      subst e1
      exact s_zip g h2 h3 h4 (soundE a X sc W _ g h5).1 (soundE b X sc W _ g h6).1
    · cases h
  | .rng3 a b c, X, sc, W, tg, e, g, h => by
    unfold chkSr at h
    split at h
    · obtain ⟨h, h8⟩ := ba2 h
      obtain ⟨h, h7⟩ := ba2 h
      obtain ⟨h, h6⟩ := ba2 h
      obtain ⟨h, h5⟩ := ba2 h
      obtain ⟨h, h4⟩ := ba2 h
      obtain ⟨h, h3⟩ := ba2 h
      obtain ⟨h1, h2⟩ := ba2 h
      have e1 := of_decide_eq_true h1
      subst e1
      exact s_rng3 g h2 h3 h4 h5 (soundE a X sc W _ g h6).1 (soundE b X sc W _ g h7).1 (soundE c X sc W _ g h8).1
    · cases h
end
end
end Rw
end
section
set_option Elab.async false
set_option linter.all false
set_option maxRecDepth 100000
namespace Rw
open PySem PySem.Spec PyProof.Rows L2
def relF (K : PySem.W.Frag) (ca : Nat → Addr) (p : List Addr) (F : Hp) : Fl → Sum L2.St V → Prop
  | .nx r, .inl σ => ER K ca p F r σ
  | .rt d, .inr v => RD K ca p F d v
  | _, _ => False
def endQ (D : Ends) : Sum L2.St V → Hp → Prop
  | .inl σ, H => D.nx σ H
  | .inr v, H => D.rt v H
def TSo (K : PySem.W.Frag) (ca : Nat → Addr) (W : XK) (f : En → Ar → Res Fl) : TS := fun D σ H => ∃ p F G r M, SR K ca p F G M H ∧ ER K ca p F r σ ∧ Tk K ca (relF K ca) W G p F (f r M) (endQ D)
def noComp : Expr → Bool
  | .ListComp .. => false
  | .SetComp .. => false
  | .DictComp .. => false
  | _ => true
theorem noComp_ok {e : Expr} (h : noComp e = true) (t : Option Expr) (l : Nat) (env : Env) : swapsWith e t l env = pure false := by
  cases e <;> first | rfl | cases h
theorem attr_sw (e o : Expr) (f : Str) (p : Pos) (l : Nat) (env : Env) : swapsWith e (some (.Attribute o f p)) l env = pure false := by
  cases e <;> rfl
section
variable {P : Pg} {fns : Nat → Option Fn} {ca fa : Nat → Addr} {fdt : Nat → FuncData} {C : Cal} {k : Nat} {X : Cx} {N : List Str} {sc : Scope} {W : XK}
abbrev SS (ca : Nat → Addr) (C : Cal) (X : Cx) (W : XK) (x : Sm) (e : Stmt) : Prop := PS X e (TSo X.K ca W (evS C x))
abbrev SSs (ca : Nat → Addr) (C : Cal) (X : Cx) (W : XK) (x : List Sm) (e : List Stmt) : Prop := PSs X e (TSo X.K ca W (evB C x))
theorem PS.imp {e : Stmt} {t t' : TS} (h : PS X e t) (k : ∀ D σ H, t' D σ H → t D σ H) : PS X e t' := ⟨fun pins s σ H D I q => h.run pins s σ H D I (k D σ H q)⟩
theorem PSs.imp {e : List Stmt} {t t' : TS} (h : PSs X e t) (k : ∀ D σ H, t' D σ H → t D σ H) : PSs X e t' := ⟨fun pins s σ H D I q => h.run pins s σ H D I (k D σ H q)⟩
theorem t_nil : SSs ca C X W [] [] := by
  refine PSs.imp pss_nil fun D σ H h => ?_
  obtain ⟨p, F, G, r, M, sr, er, h⟩ := h
  exact Tk.ok (v := Sum.inl σ) h sr er
theorem t_cons {s : Sm} {ss : List Sm} {s' : Stmt} {ss' : List Stmt} (h1 : SS ca C X W s s') (h2 : SSs ca C X W ss ss') : SSs ca C X W (s :: ss) (s' :: ss') := by
  refine PSs.imp (pss_cons h1 h2) fun D σ H h => ?_
  obtain ⟨p, F, G, r, M, sr, er, h⟩ := h
  refine ⟨p, F, G, r, M, sr, er, (Tk.bind (rel := relF X.K ca) h).mono fun o H1 ⟨p1, F1, f, M1, a1, b1, s1, r1, _, hh⟩ => ?_⟩
  cases f with
  | nx r' =>
    cases o with
    | inl σ' => exact ⟨p1, F1, G, r', M1, s1, r1, hh⟩
    | inr v => exact r1.elim
  | rt d =>
    cases o with
    | inl σ' => exact r1.elim
    | inr v => exact (show endQ D (Sum.inr v) H1 from Tk.ok (v := Sum.inr v) (show Tk X.K ca (relF X.K ca) W G p1 F1 (.ok (.rt d) M1) (endQ D) from hh) s1 r1)
theorem t_expr {e : Ex} {e' : Expr} {pos : Pos} (hn : noComp e' = true) (h : SE ca C X W e e') : SS ca C X W (.expr e) (.Expr e' pos) := by
  refine PS.imp (ps_expr h (noComp_ok hn _ _ _)) fun D σ H h => ?_
  obtain ⟨p, F, G, r, M, sr, er, h⟩ := h
  refine ⟨p, F, G, r, M, sr, er, (Tk.bind (rel := RD X.K ca) h).mono fun v H1 ⟨p1, F1, x, M1, a1, b1, s1, r1, _, h1⟩ => ?_⟩
  exact Tk.ok (v := Sum.inl σ) h1 s1 (er.sub a1 b1)
theorem t_ret {e : Ex} {e' : Expr} {pos : Pos} (h : SE ca C X W e e') : SS ca C X W (.ret (some e)) (.Return (some e') pos) := by
  refine PS.imp (ps_ret h) fun D σ H h => ?_
  obtain ⟨p, F, G, r, M, sr, er, h⟩ := h
  refine ⟨p, F, G, r, M, sr, er, (Tk.bind (rel := RD X.K ca) h).mono fun v H1 ⟨p1, F1, x, M1, a1, b1, s1, r1, _, h1⟩ => ?_⟩
  exact Tk.ok (v := Sum.inr v) h1 s1 r1
theorem t_retN {pos : Pos} : SS ca C X W (.ret none) (.Return none pos) := by
  refine PS.imp ps_retN fun D σ H h => ?_
  obtain ⟨p, F, G, r, M, sr, er, h⟩ := h
  exact Tk.ok (v := Sum.inr .non) h sr (show relF X.K ca p F (.rt (.t .non)) (.inr .non) from (show RD X.K ca p F (.t .non) .non from (show RT X.K ca F .non .non from rfl)))
theorem asg_step {tg : Tg} {e : Ex} {D : Ends} {σ : L2.St} {H : Hp} (h : TSo X.K ca W (evS C (.asg tg e)) D σ H) : TEo X.K ca W (evE C e) σ H fun x H1 => TGo X.K ca tg x σ H1 D.nx := by
  obtain ⟨p, F, G, r, M, sr, er, h⟩ := h
  refine ⟨p, F, G, r, M, sr, er, (Tk.bind (rel := RD X.K ca) h).mono fun v H1 ⟨p1, F1, x, M1, a1, b1, s1, r1, _, h1⟩ => ?_⟩
  cases q : asg tg x M1 r with
  | none => simp only [q] at h1; exact h1.elim
  | some r' =>
    simp only [q] at h1
    exact ⟨p1, F1, G, M1, x, r, r', s1, er.sub a1 b1, r1, q, fun σ' er' _ => Tk.ok (v := Sum.inl σ') h1 s1 er'⟩
theorem t_asg {tg : Tg} {e : Ex} {tg' e' : Expr} {pos : Pos} (hg : PG X tg' (TGo X.K ca tg)) (he : SE ca C X W e e') (hs : swapsWithSole [tg'] e' pos.line X.env = pure false) (hw : swappedStores [tg'] e' X.env = pure none)
    (h1 : (assignEach [tg'] X.env).map (·.2) = [assign tg' X.env]) : SS ca C X W (.asg tg e) (.Assign [tg'] e' pos) :=
  PS.imp (ps_asg he hg hs hw h1) fun D σ H h => asg_step h
theorem t_fld (g : Good P fns ca fa fdt C k X N sc W) {c : Nat} {o e : Ex} {f : Str} {o' e' : Expr} {pos p' : Pos} (hx : (c, f) ∈ P.flds) (ho : SE ca C X W o o') (he : SE ca C X W e e') : SS ca C X W (.fld c o f e) (.Assign [.Attribute o' f p'] e' pos) := by
  obtain ⟨c1, c2⟩ := g.fx.cls c f hx
  refine PS.imp (ps_fld ho he (attr_sw _ _ _ _ _ _)) fun D σ H h => ?_
  obtain ⟨p, F, G, r, M, sr, er, h⟩ := h
  refine ⟨p, F, G, r, M, sr, er, (Tk.bind (rel := RD X.K ca) h).mono fun v H1 ⟨p1, F1, x, M1, a1, b1, s1, r1, _, h1⟩ => ?_⟩
  refine ⟨p1, F1, G, r, M1, s1, er.sub a1 b1, (Tk.bind (rel := RD X.K ca) h1).mono fun w H2 ⟨p2, F2, y, M2, a2, b2, s2, r2, _, h2⟩ => ?_⟩
  unfold fldV at h2
  cases q : objOf M2 c y with
  | none => simp only [q] at h2; exact h2.elim
  | some fs =>
    simp only [q] at h2
    obtain ⟨i, a, dx, vs, e1, e2, e3, e4, e5, e6⟩ := objOf_ok s2 r2 q
    subst e1
    cases q2 : decide (fs.length < 1000) with
    | false => simp only [q2] at h2; exact h2.elim
    | true =>
      simp only [q2] at h2
      have lt := of_decide_eq_true q2
      have r1' := RD.sub a2 b2 x v r1
      refine ⟨a, ca c, dx, vs, e3, e5, c1, c2, by rw [← paired_len e6]; exact lt, ?_⟩
      have s3 := s2.set (m := .obj c (putD f x fs)) (o := .ins (ca c) dx (putF f v vs)) e2 ⟨dx, putF f v vs, upd_same, put_fld r1' e6⟩
      exact Tk.ok (v := Sum.inl σ) (show Tk X.K ca (relF X.K ca) W G p2 F2 (.ok (.nx r) (M2.set i (.obj c (putD f x fs)))) (endQ D) from h2) s3 ((er.sub a1 b1).sub a2 b2)
theorem t_sub (g : Good P fns ca fa fdt C k X N sc W) {o i e : Ex} {o' i' e' : Expr} {pos p' : Pos} (hs : swapsWithSole [.Subscript o' i' p'] e' pos.line X.env = pure false) (hn : noSlice i' = true) (ho : SE ca C X W o o') (hi : SE ca C X W i i') (he : SE ca C X W e e') : SS ca C X W (.sub o i e) (.Assign [.Subscript o' i' p'] e' pos) := by
  refine PS.imp (ps_asg he (pg_sub ho hi (s_sub (ca := ca) g.hu) (fun v => by cases i' <;> first | rfl | cases hn)) hs rfl rfl) fun D σ H h => ?_
  obtain ⟨p, F, G, r, M, sr, er, h⟩ := h
  refine ⟨p, F, G, r, M, sr, er, (Tk.bind (rel := RD X.K ca) h).mono fun v H1 ⟨p1, F1, x, M1, a1, b1, s1, r1, _, h1⟩ => ?_⟩
  refine ⟨p1, F1, G, r, M1, s1, er.sub a1 b1, (Tk.bind (rel := RD X.K ca) h1).mono fun w H2 ⟨p2, F2, y, M2, a2, b2, s2, r2, _, h2⟩ => ?_⟩
  refine ⟨p2, F2, G, r, M2, s2, (er.sub a1 b1).sub a2 b2, (Tk.bind (rel := RD X.K ca) h2).mono fun u H3 ⟨p3, F3, z, M3, a3, b3, s3, r3, _, h3⟩ => ?_⟩
  refine ⟨p3, F3, G, M3, y, z, x, W, s3, RD.sub a3 b3 y w r2, r3, RD.sub (a2.trans a3) (b2.trans b3) x v r1, (Tk.bind (rel := fun _ _ (_ : Unit) (_ : Unit) => True) h3).mono fun _ H4 ⟨p4, F4, _, M4, a4, b4, s4, _, _, h4⟩ => ?_⟩
  exact Tk.ok (v := Sum.inl σ) h4 s4 (((er.sub a1 b1).sub a2 b2).sub (a3.trans a4) (b3.trans b4))
theorem t_bad {s : Stmt} : SS ca C X W .bad s := by
  refine ⟨fun pins st σ H D I h => ?_⟩
  obtain ⟨p, F, G, r, M, sr, er, h⟩ := h
  unfold evS at h
  exact h.elim
theorem t_ite {c : Ex} {a b : List Sm} {c' : Expr} {a' b' : List Stmt} {pos : Pos} (hc : ST ca C X W c c') (ha : SSs ca C X W a a') (hb : SSs ca C X W b b') : SS ca C X W (.ite c a b) (.If c' a' b' pos) := by
  refine PS.imp (ps_if hc ha hb) fun D σ H h => ?_
  obtain ⟨p, F, G, r, M, sr, er, h⟩ := h
  refine ⟨p, F, G, r, M, sr, er, (Tk.bind (rel := fun _ _ (a b : Bool) => a = b) h).mono fun kk H1 ⟨p1, F1, x, M1, a1, b1, s1, r1, _, h1⟩ => ?_⟩
  have r1' : x = kk := r1
  subst r1'
  cases x with
  | true => rw [if_pos rfl]; exact ⟨p1, F1, G, r, M1, s1, er.sub a1 b1, h1⟩
  | false => rw [if_neg (by simp)]; exact ⟨p1, F1, G, r, M1, s1, er.sub a1 b1, h1⟩
theorem t_whl {c : Ex} {b : List Sm} {c' : Expr} {b' : List Stmt} {pos : Pos} (hp : PassesOwn (model X.prog X.w) X.A X.env X.xe) (hc : ST ca C X W c c') (hb : SSs ca C X W b b') : SS ca C X W (.whl c b) (.While c' b' [] pos) := by
  refine PS.imp (ps_while hp hc hb) fun D σ H h => ?_
  obtain ⟨p, F, G, r, M, sr, er, h⟩ := h
  refine ⟨fun n σ H => ∃ p F r M, SR X.K ca p F G M H ∧ ER X.K ca p F r σ ∧ Tk X.K ca (relF X.K ca) W G p F (whl (fun r M => evT C c r M) (fun r M => evB C b r M) n r M) (endQ D), ⟨wfuel, p, F, r, M, sr, er, h⟩, ?_⟩
  rintro n σ1 H1 ⟨p1, F1, r1, M1, s1, er1, h1⟩
  cases n with
  | zero => exact h1.elim
  | succ n =>
    refine ⟨p1, F1, G, r1, M1, s1, er1, (Tk.bind (rel := fun _ _ (a b : Bool) => a = b) h1).mono fun kk H2 ⟨p2, F2, x, M2, a2, b2, s2, r2, _, h2⟩ => ?_⟩
    have r2' : x = kk := r2
    subst r2'
    cases x with
    | false => rw [if_neg (by simp)]; exact Tk.ok (v := Sum.inl σ1) (show Tk X.K ca (relF X.K ca) W G p2 F2 (.ok (.nx r1) M2) (endQ D) from h2) s2 (er1.sub a2 b2)
    | true =>
      rw [if_pos rfl]
      refine ⟨fun σ H => ∃ p F r M, SR X.K ca p F G M H ∧ ER X.K ca p F r σ ∧ Tk X.K ca (relF X.K ca) W G p F (whl (fun r M => evT C c r M) (fun r M => evB C b r M) n r M) (endQ D), fun σ' H' z => ⟨n, Nat.lt_succ_self _, z⟩, ?_⟩
      refine ⟨p2, F2, G, r1, M2, s2, er1.sub a2 b2, (Tk.bind (rel := relF X.K ca) (show Tk X.K ca (relF X.K ca) W G p2 F2 ((evB C b r1 M2).bind fun f M => match f with | .nx r' => whl (fun r M => evT C c r M) (fun r M => evB C b r M) n r' M | .rt x => .ok (.rt x) M) (endQ D) from h2)).mono fun o H3 ⟨p3, F3, f, M3, a3, b3, s3, r3, _, h3⟩ => ?_⟩
      cases f with
      | nx r' =>
        cases o with
        | inl σ' => exact ⟨p3, F3, r', M3, s3, r3, h3⟩
        | inr v => exact r3.elim
      | rt d =>
        cases o with
        | inl σ' => exact r3.elim
        | inr v => exact (show endQ D (Sum.inr v) H3 from Tk.ok (v := Sum.inr v) (show Tk X.K ca (relF X.K ca) W G p3 F3 (.ok (.rt d) M3) (endQ D) from h3) s3 r3)
def forBody (C : Cal) (tg : Tg) (b : List Sm) (d : D) (r : En) (M : Ar) : Res Fl := match asg tg d M r with
  | none => .stuck
  | some r' => evB C b r' M
theorem for_turn {K : PySem.W.Frag} {tg : Tg} {b : List Sm} {p : List Addr} {F G H : Hp} {r : En} {M : Ar} {σ : L2.St} {d : D} {x : V} {nxt : En → Ar → Res Fl} {D : Ends} {Nx : L2.St → Hp → Prop} (sr : SR K ca p F G M H) (er : ER K ca p F r σ) (rd : RD K ca p F d x)
    (h : Tk K ca (relF K ca) W G p F ((forBody C tg b d r M).bind fun f M => match f with | .nx r' => nxt r' M | .rt x => .ok (.rt x) M) (endQ D))
    (hn : ∀ σ' H' p' F' r' M', Pre p p' → Sub F F' → SR K ca p' F' G M' H' → ER K ca p' F' r' σ' → Tk K ca (relF K ca) W G p' F' (nxt r' M') (endQ D) → Nx σ' H') :
    TGo K ca tg x σ H fun σ2 H2 => TSo K ca W (evB C b) { D with nx := Nx, ct := Nx, bk := D.nx } σ2 H2 := by
  unfold forBody at h
  cases q : asg tg d M r with
  | none => simp only [q] at h; exact h.elim
  | some r' =>
    simp only [q] at h
    refine ⟨p, F, G, M, d, r, r', sr, er, rd, q, fun σ2 er2 _ => ⟨p, F, G, r', M, sr, er2, (Tk.bind (rel := relF K ca) h).mono fun o H3 ⟨p3, F3, f, M3, a3, b3, s3, r3, _, h3⟩ => ?_⟩⟩
    cases f with
    | nx r'' =>
      cases o with
      | inl σ' => exact hn σ' H3 p3 F3 r'' M3 a3 b3 s3 r3 h3
      | inr v => exact r3.elim
    | rt dd =>
      cases o with
      | inl σ' => exact r3.elim
      | inr v => exact (show endQ D (Sum.inr v) H3 from Tk.ok (v := Sum.inr v) (show Tk K ca (relF K ca) W G p3 F3 (.ok (.rt dd) M3) (endQ D) from h3) s3 r3)
theorem t_for {tg : Tg} {s : Sr} {b : List Sm} {tg' it : Expr} {b' : List Stmt} {pos : Pos} (hp : PassesOwn (model X.prog X.w) X.A X.env X.xe) (hc : X.calm = true) (hi : SI ca C X W tg' s it) (hg : PG X tg' (TGo X.K ca tg)) (hb : SSs ca C X W b b') (hs : noSet it = true) : SS ca C X W (.for tg s b) (.For tg' it b' [] pos) := by
  refine PS.imp (ps_for hp hc hi hg hb (noSet_ok hs _)) fun D σ H h => ?_
  obtain ⟨p, F, G, r, M, sr, er, h⟩ := h
  have h' : Tk X.K ca (relF X.K ca) W G p F ((evSr C s r M).bind fun I M => forI (forBody C tg b) I r M) (endQ D) := h
  refine ⟨p, F, G, r, M, sr, er, (Tk.bind (rel := ItR X.K ca) h').mono fun J H1 ⟨p1, F1, I, M1, a1, b1, s1, itr, _, h1⟩ => ?_⟩
  have er1 := er.sub a1 b1
  cases I with
  | fix l =>
    have itr : ItF X.K ca l p1 F1 J := itr
    refine ⟨fun i m σ H => ∃ p' F' r' M', Pre p1 p' ∧ Sub F1 F' ∧ SR X.K ca p' F' G M' H ∧ ER X.K ca p' F' r' σ ∧ i ≤ l.length ∧ m = l.length - i ∧ Tk X.K ca (relF X.K ca) W G p' F' (forF (forBody C tg b) (l.drop i) r' M') (endQ D),
      ⟨l.length, p1, F1, r, M1, Pre.refl _, Sub.refl _, s1, er1, Nat.zero_le _, by simp, h1⟩, ?_⟩
    rintro i m σ2 H2 ⟨p', F', r', M', a2, b2, s2, er2, hi, rfl, h2⟩
    obtain ⟨stop, go⟩ := itr i p' F' _ M' H2 a2 b2 s2
    by_cases hl : i < l.length
    · right
      obtain ⟨g1, g2⟩ := go l[i] (List.getElem?_eq_getElem hl)
      rw [List.drop_eq_getElem_cons hl] at h2
      refine ⟨g1, fun σ H => ∃ p' F' r' M', Pre p1 p' ∧ Sub F1 F' ∧ SR X.K ca p' F' G M' H ∧ ER X.K ca p' F' r' σ ∧ Tk X.K ca (relF X.K ca) W G p' F' (forF (forBody C tg b) (l.drop (i + 1)) r' M') (endQ D),
        fun σ' H' ⟨p3, F3, r3, M3, z1, z2, z3, z4, z5⟩ => ⟨l.length - (i + 1), by omega, p3, F3, r3, M3, z1, z2, z3, z4, hl, rfl, z5⟩, fun x H' y => ?_⟩
      obtain ⟨F3, c1, c2, c3⟩ := g2 x H' y
      exact for_turn (nxt := fun r M => forF (forBody C tg b) (l.drop (i + 1)) r M) c2 (er2.sub (Pre.refl _) c1) c3 (Tk.pre h2 (Pre.refl _) c1) fun σ' H'' p4 F4 r4 M4 x1 x2 x3 x4 x5 => ⟨p4, F4, r4, M4, a2.trans x1, (b2.trans c1).trans x2, x3, x4, x5⟩
    · left
      have ei : i = l.length := by omega
      refine ⟨stop (by omega), ?_⟩
      rw [ei, List.drop_length] at h2
      exact Tk.ok (v := Sum.inl σ2) (show Tk X.K ca (relF X.K ca) W G p' F' (.ok (.nx r') M') (endQ D) from h2) s2 er2
  | live i0 n =>
    have itr : ItL X.K ca i0 p1 J := itr
    refine ⟨fun j m σ H => ∃ p' F' r' M', Pre p1 p' ∧ Sub F1 F' ∧ SR X.K ca p' F' G M' H ∧ ER X.K ca p' F' r' σ ∧ Tk X.K ca (relF X.K ca) W G p' F' (forL (forBody C tg b) i0 m j r' M') (endQ D),
      ⟨n + 1, p1, F1, r, M1, Pre.refl _, Sub.refl _, s1, er1, h1⟩, ?_⟩
    rintro j m σ2 H2 ⟨p', F', r', M', a2, b2, s2, er2, h2⟩
    cases m with
    | zero => exact h2.elim
    | succ m =>
      unfold forL at h2
      cases q0 : M'[i0]? with
      | none => simp only [q0] at h2; exact h2.elim
      | some ob =>
        simp only [q0] at h2
        cases ob with
        | lst l =>
          simp only at h2
          obtain ⟨stop, go⟩ := itr j p' F' _ M' H2 l a2 s2 q0
          cases q1 : l[j]? with
          | none =>
            simp only [q1] at h2
            exact .inl ⟨stop q1, Tk.ok (v := Sum.inl σ2) h2 s2 er2⟩
          | some d =>
            simp only [q1] at h2
            right
            obtain ⟨g1, g2⟩ := go d q1
            refine ⟨g1, fun σ H => ∃ p' F' r' M', Pre p1 p' ∧ Sub F1 F' ∧ SR X.K ca p' F' G M' H ∧ ER X.K ca p' F' r' σ ∧ Tk X.K ca (relF X.K ca) W G p' F' (forL (forBody C tg b) i0 m (j + 1) r' M') (endQ D),
              fun σ' H' z => ⟨m, Nat.lt_succ_self _, z⟩, fun x H' y => ?_⟩
            obtain ⟨eH, c3⟩ := g2 x H' y
            subst eH
            exact for_turn (nxt := fun r M => forL (forBody C tg b) i0 m (j + 1) r M) s2 er2 c3 h2 fun σ' H'' p4 F4 r4 M4 x1 x2 x3 x4 x5 => ⟨p4, F4, r4, M4, a2.trans x1, b2.trans x2, x3, x4, x5⟩
        | _ => exact h2.elim
/-- the turns of a loop over fixed items -/
theorem for_fix {tg : Tg} {b : List Sm} {l : List D} {J : It} {p1 : List Addr} {F1 G H1 : Hp} {r : En} {M1 : Ar} {σ : L2.St} {D : Ends} {K : PySem.W.Frag} (itr : ItF K ca l p1 F1 J) (s1 : SR K ca p1 F1 G M1 H1) (er1 : ER K ca p1 F1 r σ) (h1 : Tk K ca (relF K ca) W G p1 F1 (forF (forBody C tg b) l r M1) (endQ D)) :
    ∃ Wv : Nat → Nat → L2.St → Hp → Prop, (∃ m, Wv 0 m σ H1) ∧ ∀ i m σ H, Wv i m σ H →
      (J.stop i H ∧ D.nx σ H) ∨ (J.go i H ∧ ∃ Nn : L2.St → Hp → Prop, (∀ σ' H', Nn σ' H' → ∃ m', m' < m ∧ Wv (i + 1) m' σ' H') ∧ ∀ x H', J.yld i H x H' → TGo K ca tg x σ H' fun σ2 H2 => TSo K ca W (evB C b) { D with nx := Nn, ct := Nn, bk := D.nx } σ2 H2) := by
  refine ⟨fun i m σ H => ∃ p' F' r' M', Pre p1 p' ∧ Sub F1 F' ∧ SR K ca p' F' G M' H ∧ ER K ca p' F' r' σ ∧ i ≤ l.length ∧ m = l.length - i ∧ Tk K ca (relF K ca) W G p' F' (forF (forBody C tg b) (l.drop i) r' M') (endQ D),
    ⟨l.length, p1, F1, r, M1, Pre.refl _, Sub.refl _, s1, er1, Nat.zero_le _, by simp, h1⟩, ?_⟩
  rintro i m σ2 H2 ⟨p', F', r', M', a2, b2, s2, er2, hi, rfl, h2⟩
  obtain ⟨stop, go⟩ := itr i p' F' _ M' H2 a2 b2 s2
  by_cases hl : i < l.length
  · right
    obtain ⟨g1, g2⟩ := go l[i] (List.getElem?_eq_getElem hl)
    rw [List.drop_eq_getElem_cons hl] at h2
    refine ⟨g1, fun σ H => ∃ p' F' r' M', Pre p1 p' ∧ Sub F1 F' ∧ SR K ca p' F' G M' H ∧ ER K ca p' F' r' σ ∧ Tk K ca (relF K ca) W G p' F' (forF (forBody C tg b) (l.drop (i + 1)) r' M') (endQ D),
      fun σ' H' ⟨p3, F3, r3, M3, z1, z2, z3, z4, z5⟩ => ⟨l.length - (i + 1), by omega, p3, F3, r3, M3, z1, z2, z3, z4, hl, rfl, z5⟩, fun x H' y => ?_⟩
    obtain ⟨F3, c1, c2, c3⟩ := g2 x H' y
    exact for_turn (nxt := fun r M => forF (forBody C tg b) (l.drop (i + 1)) r M) c2 (er2.sub (Pre.refl _) c1) c3 (Tk.pre h2 (Pre.refl _) c1) fun σ' H'' p4 F4 r4 M4 x1 x2 x3 x4 x5 => ⟨p4, F4, r4, M4, a2.trans x1, (b2.trans c1).trans x2, x3, x4, x5⟩
  · left
    have ei : i = l.length := by omega
    refine ⟨stop (by omega), ?_⟩
    rw [ei, List.drop_length] at h2
    exact Tk.ok (v := Sum.inl σ2) (show Tk K ca (relF K ca) W G p' F' (.ok (.nx r') M') (endQ D) from h2) s2 er2
theorem PS.or {st : Stmt} {t t' : TS} (h : PS X st t) (h' : PS X st t') : PS X st (fun D σ H => t D σ H ∨ t' D σ H) := ⟨fun pins s σ H D I q => by
  rcases q with q | q
  · exact h.run pins s σ H D I q
  · exact h'.run pins s σ H D I q⟩
theorem t_forK (g : Good P fns ca fa fdt C k X N sc W) {tg : Tg} {i : Nat} {b : List Sm} {x : Str} {tg' : Expr} {b' : List Stmt} {pos xp : Pos} (hp : PassesOwn (model X.prog X.w) X.A X.env X.xe) (hc : X.calm = true) (h1 : N[i]? = some x) (h2 : visB sc x = true) (h3 : (x == ("__debug__" : Str)) = false) (h4 : (x == ("__classdict__" : Str)) = false) (hg : PG X tg' (TGo X.K ca tg)) (hb : SSs ca C X W b b') : SS ca C X W (.forK tg i b) (.For tg' (.Name x xp) b' [] pos) := by
  have pv := pe_var (X := X) (pos := xp) (by rw [g.hN]; exact h1) (by rw [g.hsc]; exact visB_ok h2) h3 h4
  have base := ps_for (pos := pos) hp hc (pi_keys (tg := tg') pv) hg hb (noSet_ok (e := .Name x xp) rfl _)
  refine PS.imp (PS.or base (ps_lock base)) fun D σ H h => ?_
  obtain ⟨p, F, G, r, M, sr, er, h⟩ := h
  unfold evS at h
  cases q : keysAt r i with
  | none => rw [q] at h; exact h.elim
  | some l =>
    rw [q] at h
    obtain ⟨ks, vs, q1, rfl⟩ := keysAt_some q
    obtain ⟨v, e1, a, us, e2, e3, e4, e5⟩ := er.2 i _ q1
    subst e2
    have hl : (ks.map kD) = (((ks.zip us).map (·.1)).map kD) := by rw [zip_fst e4]
    rw [hl] at h
    have h' : Tk X.K ca (relF X.K ca) W G p F (noExc (forF (forBody C tg b) (((ks.zip us).map (·.1)).map kD) r M)) (endQ D) := h
    cases q2 : forF (forBody C tg b) (((ks.zip us).map (·.1)).map kD) r M with
    | stuck => rw [q2] at h'; exact h'.elim
    | exc c fs M1 => rw [q2] at h'; exact h'.elim
    | ok f M1 =>
      rw [q2] at h'
      have hok : Tk X.K ca (relF X.K ca) W G p F (.ok f M1) (endQ D) := h'
      rcases e3 with e3 | ⟨od, e3⟩
      · right
        refine ⟨a, .dK (ks.zip us), sr.fr _ _ e3, trivial, fun od => ?_⟩
        have al := alike_upd (o' := .frz od (.dK (ks.zip us))) e3 (.inl rfl) (.inr ⟨od, rfl⟩)
        have sr2 := sr.alike e3 al
        refine ⟨.ref a, e1, a, od, rfl, .inl ⟨_, upd_same, ?_⟩⟩
        refine for_fix (G := G) (itF_keys upd_same) sr2 (er.alike al) ?_
        rw [q2]
        intro p3 F3 H3 o z1 z2 z3 z4
        have hF3 : F3 a = some (.frz od (.dK (ks.zip us))) := z2 _ _ upd_same
        have al3 := alike_upd (o' := .dK (ks.zip us)) hF3 (.inr ⟨od, rfl⟩) (.inl rfl)
        have sr4 := z3.alike hF3 al3
        have sub4 : Sub F (upd F3 a (.dK (ks.zip us))) := fun c u e => by
          by_cases hc : c = a
          · subst hc
            rw [e3] at e
            cases e
            exact upd_same
          · rw [upd_ne hc]
            exact z2 c u (by rw [upd_ne hc]; exact e)
        have hH3 := z3.fr _ _ hF3
        cases o with
        | inl σ' =>
          cases f with
          | nx r' => exact ⟨hH3, (show endQ D (Sum.inl σ') _ from hok p3 _ _ (Sum.inl σ') z1 sub4 sr4 (ER.alike z4 al3))⟩
          | rt d => exact z4.elim
        | inr v =>
          cases f with
          | nx r' => exact z4.elim
          | rt d => exact ⟨hH3, (show endQ D (Sum.inr v) _ from hok p3 _ _ (Sum.inr v) z1 sub4 sr4 (RD.alike al3 d v z4))⟩
      · left
        refine ⟨.ref a, e1, a, od, rfl, .inl ⟨_, sr.fr _ _ e3, ?_⟩⟩
        refine for_fix (G := G) (itF_keys e3) sr er ?_
        rw [q2]
        exact hok
end
end Rw
end
section
set_option Elab.async false
set_option linter.all false
set_option maxRecDepth 100000
namespace Rw
open PySem PySem.Spec PyProof.Rows L2
def swPair (tg e : Expr) : Option (List Expr × List Expr) := match tg, e with
  | .Tuple ts _ _, .Tuple vs _ _ => some (ts, vs)
  | .List ts _, .Tuple vs _ _ => some (ts, vs)
  | _, _ => none
def isStar : Expr → Bool
  | .Starred .. => true
  | _ => false
def swNames (sc : Scope) (ts : List Expr) : List Str := ts.filterMap fun
  | .Name id pos => if sc.names.lookup id == some .local && pos.line == (ts.head?.map (·.pos.line)).getD 0 then some id else none
  | _ => none
def swL (sc : Scope) (ts vs : List Expr) : Option (Option (List Str)) :=
  if !(ts.length == 2 || ts.length == 3) || vs.length != ts.length then some none else
  if vs.any isStar then some none else
  if (swNames sc ts).length != ts.length || (swNames sc ts).eraseDups.length != (swNames sc ts).length then some none else
  if vs.all (foldedForSure 8) then some none else
  if vs.all (constantsAlone 8) then none else some (some (swNames sc ts))
def swC (sc : Scope) (tg e : Expr) : Option (Option (List Str)) := match swPair tg e with
  | none => some none
  | some (ts, vs) => swL sc ts vs
theorem swC_ok {env : Env} {tg e : Expr} {o : Option (List Str)} (hk : env.scope.kind = .function) (h : swC env.scope tg e = some o) : swappedStores [tg] e env = pure o := by
  have hb : env.blockKind = .function := by unfold Env.blockKind; rw [hk]; rfl
  have key : ∀ ts vs, swL env.scope ts vs = some o → (do
      if !(ts.length == 2 || ts.length == 3) || vs.length != ts.length || env.blockKind != .function then return none
      if vs.any isStar then return none
      if (swNames env.scope ts).length != ts.length || (swNames env.scope ts).eraseDups.length != (swNames env.scope ts).length then return none
      if vs.all (foldedForSure 8) then return none
      if vs.all (constantsAlone 8) then unsupported "assign.tuple-of-constant-expressions:order-of-the-stores"
      return some (swNames env.scope ts) : Sem (Option (List Str))) = pure o := by
    intro ts vs h
    unfold swL at h
    rw [hb]
    have e0 : ((ScopeKind.function != ScopeKind.function) = false) := rfl
    rw [e0, Bool.or_false]
    split at h
    · rename_i z; cases h; rw [if_pos z]
    · rename_i z
      rw [if_neg z]
      split at h
      · rename_i z; cases h; rw [if_pos z]
      · rename_i z
        split at h
        · rename_i z2; cases h; rw [if_neg z, if_pos z2]
        · rename_i z2
          split at h
          · rename_i z3; cases h; rw [if_neg z, if_neg z2, if_pos z3]
          · rename_i z3
            split at h
            · cases h
            · rename_i z4; cases h; rw [if_neg z, if_neg z2, if_neg z3, if_neg z4]
  unfold swC at h
  cases q : swPair tg e with
  | none =>
    simp only [q] at h
    cases h
    unfold swPair at q
    unfold swappedStores
    split at q
    · cases q
    · cases q
    · rename_i z1 z2
      split
      · rename_i z3
        split at z3
        · rename_i hq
          exact (z1 _ _ _ _ _ _ (List.cons.inj hq).1 rfl).elim
        · rename_i hq
          exact (z2 _ _ _ _ _ (List.cons.inj hq).1 rfl).elim
        · cases z3
      · rfl
  | some pq =>
    obtain ⟨ts, vs⟩ := pq
    simp only [q] at h
    rw [← key ts vs h]
    unfold swPair at q
    split at q
    · cases q; rfl
    · cases q; rfl
    · cases q
theorem asgs_two {i j : Nat} {a b : D} {M : Ar} {r r' : En} (h : asgs [.var i, .var j] [a, b] M r = some r') : i < r.length ∧ j < r.length ∧ r' = (r.set i (some a)).set j (some b) := by
  simp only [asgs, asg] at h
  by_cases hi : i < r.length
  · simp only [if_pos hi, List.length_set] at h
    by_cases hj : j < r.length
    · simp only [if_pos hj] at h
      cases h
      exact ⟨hi, hj, rfl⟩
    · simp only [if_neg hj] at h; cases h
  · simp only [if_neg hi] at h; cases h
theorem asgs_three {i j l : Nat} {a b c : D} {M : Ar} {r r' : En} (h : asgs [.var i, .var j, .var l] [a, b, c] M r = some r') : r' = ((r.set i (some a)).set j (some b)).set l (some c) := by
  simp only [asgs, asg] at h
  by_cases hi : i < r.length
  · simp only [if_pos hi, List.length_set] at h
    by_cases hj : j < r.length
    · simp only [if_pos hj, List.length_set] at h
      by_cases hl : l < r.length
      · simp only [if_pos hl] at h
        cases h
        rfl
      · simp only [if_neg hl] at h; cases h
    · simp only [if_neg hj] at h; cases h
  · simp only [if_neg hi] at h; cases h
theorem allT_map : ∀ {l : List D} {ts : List T}, allT l = some ts → ts.map D.t = l
  | [], ts, h => by unfold allT at h; cases h; rfl
  | .t x :: l, ts, h => by
    unfold allT at h
    cases q : allT l with
    | none => simp only [q] at h; cases h
    | some us =>
      simp only [q] at h
      cases h
      rw [List.map_cons, allT_map q]
  | .ref _ :: _, ts, h => by unfold allT at h; cases h
  | .tup _ :: _, ts, h => by unfold allT at h; cases h
  | .lst _ :: _, ts, h => by unfold allT at h; cases h
theorem tpOf_frzT (l : List D) : tpOf (frzT l) = some l := by
  unfold frzT
  cases q : allT l with
  | none => rfl
  | some ts => show some (ts.map D.t) = some l; rw [allT_map q]
section
variable {P : Pg} {fns : Nat → Option Fn} {ca fa : Nat → Addr} {fdt : Nat → FuncData} {C : Cal} {k : Nat} {X : Cx} {N : List Str} {sc : Scope} {W : XK}
theorem tup_step {ts : List Tg} {es : List Ex} {D : Ends} {σ : L2.St} {H : Hp} (h : TSo X.K ca W (evS C (.asg (.tup ts) (.tuple es))) D σ H) :
    TAo X.K ca W (evEs C es) σ H fun vs H1 => ∃ p F G M ds r r', SR X.K ca p F G M H1 ∧ ER X.K ca p F r σ ∧ RDs X.K ca p F ds vs ∧ ds.length = es.length ∧ asgs ts ds M r = some r' ∧ ∀ σ', ER X.K ca p F r' σ' → D.nx σ' H1 := by
  obtain ⟨p, F, G, r, M, sr, er, h⟩ := h
  have h : Tk X.K ca (relF X.K ca) W G p F ((evE C (.tuple es) r M).bind fun d M => match asg (.tup ts) d M r with
    | some r' => .ok (.nx r') M
    | none => .stuck) (endQ D) := h
  have h : Tk X.K ca (relF X.K ca) W G p F (((evEs C es r M).bind fun ds M => okIf (decide (ds.length ≤ line)) (.ok (frzT ds) M)).bind fun d M => match asg (.tup ts) d M r with
    | some r' => .ok (.nx r') M
    | none => .stuck) (endQ D) := by unfold evE at h; exact h
  rw [Res.bind_assoc] at h
  refine ⟨p, F, G, r, M, sr, er, (Tk.bind (rel := RDs X.K ca) h).mono fun vs H1 ⟨p1, F1, ds, M1, a1, b1, s1, r1, q1, h1⟩ => ?_⟩
  cases q0 : decide (ds.length ≤ line) with
  | false => rw [q0] at h1; exact h1.elim
  | true =>
    rw [q0] at h1
    have h1 : Tk X.K ca (relF X.K ca) W G p1 F1 (match asg (.tup ts) (frzT ds) M1 r with
      | some r' => .ok (.nx r') M1
      | none => .stuck) (endQ D) := h1
    have ea : asg (.tup ts) (frzT ds) M1 r = asgs ts ds M1 r := by unfold asg; rw [tpOf_frzT]
    rw [ea] at h1
    cases q : asgs ts ds M1 r with
    | none => simp only [q] at h1; exact h1.elim
    | some r' =>
      simp only [q] at h1
      exact ⟨p1, F1, G, M1, ds, r, r', s1, er.sub a1 b1, r1, call_step.evEs_len q1, q, fun σ' er' => Tk.ok (v := Sum.inl σ') h1 s1 er'⟩
theorem t_par2 (g : Good P fns ca fa fdt C k X N sc W) {i j : Nat} {es : List Ex} {x y : Str} {a b : Expr} {px py pt pos : Pos} {kt k2 pt2} (hl : es.length = 2) (hi : N[i]? = some x) (hj : N[j]? = some y) (hij : i ≠ j)
    (hx : sc.names.lookup x = some .local) (hy : sc.names.lookup y = some .local) (ha : SA ca C X W es [a, b]) (hw : swappedStores [.Tuple [.Name x px, .Name y py] kt pt] (.Tuple [a, b] k2 pt2) X.env = pure (some [x, y])) :
    SS ca C X W (.asg (.tup [.var i, .var j]) (.tuple es)) (.Assign [.Tuple [.Name x px, .Name y py] kt pt] (.Tuple [a, b] k2 pt2) pos) := by
  refine PS.imp (ps_par g.calm (by rw [g.hN]; exact g.nd) (by rw [g.hN]; exact hi) (by rw [g.hN]; exact hj) hij (by rw [g.hsc]; exact hx) (by rw [g.hsc]; exact hy) ha hw rfl) fun D σ H h => ?_
  obtain ⟨p, F, G, r, M, sr, er, h⟩ := tup_step h
  refine ⟨p, F, G, r, M, sr, er, h.mono fun vs H1 ⟨p1, F1, G1, M1, ds, r1, r', s1, er1, rd, ld, q, hh⟩ => ?_⟩
  match ds, rd, ld, q with
  | [d1, d2], ⟨v, w, e1, rv, w1, w2, e2, rw2, e3⟩, _, q =>
    subst e3 e2 e1
    obtain ⟨l1, l2, er'⟩ := asgs_two q
    subst er'
    exact ⟨v, w1, rfl, hh _ ((er1.set rv).set rw2)⟩
  | [], _, ld, _ => rw [hl] at ld; cases ld
  | [_], _, ld, _ => rw [hl] at ld; cases ld
  | _ :: _ :: _ :: _, _, ld, _ => rw [hl] at ld; simp at ld
theorem t_par3 (g : Good P fns ca fa fdt C k X N sc W) {i j l : Nat} {es : List Ex} {x y z : Str} {a b c : Expr} {px py pz pt pos : Pos} {kt k2 pt2} (hl : es.length = 3) (hi : N[i]? = some x) (hj : N[j]? = some y) (hz : N[l]? = some z) (hij : i ≠ j) (hil : i ≠ l) (hjl : j ≠ l)
    (hx : sc.names.lookup x = some .local) (hy : sc.names.lookup y = some .local) (hz' : sc.names.lookup z = some .local) (ha : SA ca C X W es [a, b, c]) (hw : swappedStores [.Tuple [.Name x px, .Name y py, .Name z pz] kt pt] (.Tuple [a, b, c] k2 pt2) X.env = pure (some [x, y, z])) :
    SS ca C X W (.asg (.tup [.var i, .var j, .var l]) (.tuple es)) (.Assign [.Tuple [.Name x px, .Name y py, .Name z pz] kt pt] (.Tuple [a, b, c] k2 pt2) pos) := by
  refine PS.imp (ps_par3 g.calm (by rw [g.hN]; exact g.nd) (by rw [g.hN]; exact hi) (by rw [g.hN]; exact hj) (by rw [g.hN]; exact hz) hij hil hjl (by rw [g.hsc]; exact hx) (by rw [g.hsc]; exact hy) (by rw [g.hsc]; exact hz') ha hw rfl) fun D σ H h => ?_
  obtain ⟨p, F, G, r, M, sr, er, h⟩ := tup_step h
  refine ⟨p, F, G, r, M, sr, er, h.mono fun vs H1 ⟨p1, F1, G1, M1, ds, r1, r', s1, er1, rd, ld, q, hh⟩ => ?_⟩
  match ds, rd, ld, q with
  | [d1, d2, d3], ⟨v, w, e1, rv, v2, w2, e2, rv2, v3, w3, e3, rv3, e4⟩, _, q =>
    subst e4 e3 e2 e1
    have er' := asgs_three q
    subst er'
    exact ⟨v, v2, v3, rfl, hh _ (((er1.set rv).set rv2).set rv3)⟩
  | [], _, ld, _ => rw [hl] at ld; cases ld
  | [_], _, ld, _ => rw [hl] at ld; cases ld
  | [_, _], _, ld, _ => rw [hl] at ld; cases ld
  | _ :: _ :: _ :: _ :: _, _, ld, _ => rw [hl] at ld; simp at ld
theorem var_step {i : Nat} {x : V} {σ : L2.St} {H : Hp} {Q : L2.St → Hp → Prop} (h : TGo X.K ca (.var i) x σ H Q) : gName i x σ H Q := by
  obtain ⟨p, F, G, M, d, r, r', sr, er, rd, e1, q⟩ := h
  unfold asg at e1
  split at e1
  · cases e1
    refine q _ (er.set rd) ⟨by rw [List.length_set], fun j hj => ?_⟩
    rw [List.getElem?_set_ne]
    intro z
    exact hj (by simp [Tg.slots, z])
  · cases e1
theorem t_setLc (g : Good P fns ca fa fdt C k X N sc W) (hk : X.env.scope.kind = .function) {i : Nat} {mu : Bool} {tg : Tg} {s : Sr} {c : Option Ex} {e0 : Ex} {y : Str} {py : Pos} {e' tg' it : Expr} {ifs : List Expr} {scope : Scope} {pos spos : Pos}
    (hy : N[i]? = some y) (hl : sc.names.lookup y = some .local) (hln : (py.line == pos.line) = true) (ha : (scope.names.any fun (n, k) => n == y && (k == .local || k == .cell)) = false)
    (h1 : noSet it = true) (h2 : tg.slots.all (fun i => decide (i < N.length)) = true) (h3 : blkC N sc scope (ownOf N tg.slots) = true) (h4 : chkTg N (relS scope sc) (blkFb scope) tg tg' = true) (h5 : chkSr P fns N sc s tg' it = true) (h6 : chkC P fns N (relS scope sc) c ifs = true) (h7 : chkE P fns N (relS scope sc) e0 e' = true) :
    SS ca C X W (.asg (.var i) (.comp mu tg s c e0)) (.Assign [.Name y py] (.ListComp e' [⟨tg', it, ifs, 0⟩] scope pos) spos) := by
  refine PS.imp (ps_setLc (own := ownOf N tg.slots) (g := TGo X.K ca tg) (tt := TTo X.K ca W0 (evC C c)) (te := TEo X.K ca W0 (evE C e0)) g.calm (by rw [g.hN]; exact g.nd) (by rw [g.hN]; exact hy) (by rw [g.hsc]; exact hl) (sw_true hk (by rw [g.hsc]; exact hl) hln ha) (soundSr s X sc W tg' it g h5) (by rw [g.hN, g.hsc]; exact blkOk_by h3) (fun s1 H1 C1 cl fp => ?_) (fun s1 H1 C1 cl fp => ?_) (fun s1 H1 C1 cl fp => ?_) (noSet_ok h1 _)) fun D σ H h => ?_
  · have g' := g.blk s1 H1 scope C1 cl fp
    exact s_tg (X := X.blk s1 H1 scope (compEnvC scope cl C1 X.env) fp) g'.hN g'.nd g'.hsc g'.calm (fun x hx => blkFb_ok hx) tg tg' h4
  · exact soundC c (X.blk s1 H1 scope (compEnvC scope cl C1 X.env) fp) (relS scope sc) W0 ifs (g.blk s1 H1 scope C1 cl fp) h6
  · exact (soundE e0 (X.blk s1 H1 scope (compEnvC scope cl C1 X.env) fp) (relS scope sc) W0 e' (g.blk s1 H1 scope C1 cl fp) h7).1
  · rw [ownOf_map h2]
    obtain ⟨p, F, G, r, M, sr, er, h⟩ := asg_step h
    exact comp_step ⟨p, F, G, r, M, sr, er, h.mono fun x H1 q => var_step q⟩
end
end Rw
end
section
set_option Elab.async false
set_option linter.all false
set_option maxRecDepth 100000
namespace Rw
open PySem PySem.Spec PyProof.Rows L2
/-- the assignment of a comprehension to a name exchanges its stores -/
def swB (sc : Scope) (y : Str) (py : Pos) (scope : Scope) (pos : Pos) : Bool := (sc.names.lookup y == some .local) && (py.line == pos.line) && !(scope.names.any fun (n, k) => n == y && (k == .local || k == .cell))
def swN (sc : Scope) (tg e : Expr) : Bool := match e with
  | .ListComp _ _ scope pos => (match tg with
    | .Name y py => !swB sc y py scope pos
    | .Tuple .. => true
    | _ => false)
  | .SetComp .. => false
  | .DictComp .. => false
  | _ => true
theorem swN_ok {env : Env} {tg e : Expr} {l : Nat} (h : swN env.scope tg e = true) (hk : env.scope.kind = .function) : swapsWithSole [tg] e l env = pure false := by
  have hb : env.blockKind = .function := by unfold Env.blockKind; rw [hk]; rfl
  show swapsWith e (some tg) l env = pure false
  by_cases hc : noComp e = true
  · exact noComp_ok hc _ _ _
  · cases e with
    | ListComp a gs scope pos =>
      cases tg with
      | Name y py =>
        have h' : swB env.scope y py scope pos = false := by simpa [swN] using h
        unfold swapsWith
        show (pure (env.blockKind == .function && env.kindOf y == some .local && py.line == pos.line && !(scope.names.any fun (n, k) => n == y && (k == .local || k == .cell))) : Sem Bool) = pure false
        rw [hb]
        have e2 : ((ScopeKind.function == ScopeKind.function) = true) := rfl
        rw [e2, Bool.true_and]
        exact congrArg pure h'
      | Tuple => rfl
      | _ => cases h
    | SetComp => cases h
    | DictComp => cases h
    | _ => exact (hc rfl).elim
def okNone : Option (Option (List Str)) → Bool
  | some none => true
  | _ => false
theorem okNone_ok {o : Option (Option (List Str))} (h : okNone o = true) : o = some none := by
  unfold okNone at h
  split at h
  · rfl
  · cases h
def par2 (sc : Scope) (x y : Str) (o : Option (Option (List Str))) : Bool := decide (o = some (some [x, y])) && decide (sc.names.lookup x = some .local) && decide (sc.names.lookup y = some .local)
def par3 (sc : Scope) (x y z : Str) (o : Option (Option (List Str))) : Bool := decide (o = some (some [x, y, z])) && decide (sc.names.lookup x = some .local) && decide (sc.names.lookup y = some .local) && decide (sc.names.lookup z = some .local)
def chkSwap (P : Pg) (fns : Nat → Option Fn) (N : List Str) (sc : Scope) : Tg → Ex → Expr → Expr → Bool
  | .var i, .comp _ tg s c e, tg0, e0 => (match tg0, e0 with
    | .Name y py, .ListComp e' [⟨tg', it, ifs, 0⟩] scope pos => decide (N[i]? = some y) && swB sc y py scope pos && noSet it && tg.slots.all (fun i => decide (i < N.length)) && blkC N sc scope (ownOf N tg.slots) && chkTg N (relS scope sc) (blkFb scope) tg tg' && chkSr P fns N sc s tg' it && chkC P fns N (relS scope sc) c ifs && chkE P fns N (relS scope sc) e e'
    | _, _ => false)
  | .tup [.var i, .var j], .tuple es, tg0, e0 => (match tg0, e0 with
    | .Tuple [.Name x px, .Name y py] kt pt, .Tuple [a, b] k2 pt2 => decide (N[i]? = some x) && decide (N[j]? = some y) && decide (i ≠ j) && par2 sc x y (swC sc (.Tuple [.Name x px, .Name y py] kt pt) (.Tuple [a, b] k2 pt2)) && chkEs P fns N sc es [a, b] && [a, b].all noStar
    | _, _ => false)
  | .tup [.var i, .var j, .var l], .tuple es, tg0, e0 => (match tg0, e0 with
    | .Tuple [.Name x px, .Name y py, .Name z pz] kt pt, .Tuple [a, b, c] k2 pt2 => decide (N[i]? = some x) && decide (N[j]? = some y) && decide (N[l]? = some z) && decide (i ≠ j) && decide (i ≠ l) && decide (j ≠ l) && par3 sc x y z (swC sc (.Tuple [.Name x px, .Name y py, .Name z pz] kt pt) (.Tuple [a, b, c] k2 pt2)) && chkEs P fns N sc es [a, b, c] && [a, b, c].all noStar
    | _, _ => false)
  | _, _, _, _ => false
def chkAsg (P : Pg) (fns : Nat → Option Fn) (N : List Str) (sc : Scope) (tg : Tg) (e : Ex) (tg' e' : Expr) : Bool :=
  (swN sc tg' e' && okNone (swC sc tg' e') && chkTg N sc (fun _ => true) tg tg' && chkE P fns N sc e e') || chkSwap P fns N sc tg e tg' e'
mutual
def chkS (P : Pg) (fns : Nat → Option Fn) (N : List Str) (sc : Scope) : Sm → Stmt → Bool
  | .asg tg e, s0 => (match s0 with
    | .Assign [tg'] e' _ => chkAsg P fns N sc tg e tg' e'
    | _ => false)
  | .fld c o f e, s0 => (match s0 with
    | .Assign [.Attribute o' f' _] e' _ => decide (f' = f) && decide ((c, f) ∈ P.flds) && chkE P fns N sc o o' && chkE P fns N sc e e'
    | _ => false)
  | .sub o i e, s0 => (match s0 with
    | .Assign [.Subscript o' i' _] e' _ => noSlice i' && chkE P fns N sc o o' && chkE P fns N sc i i' && chkE P fns N sc e e'
    | _ => false)
  | .expr e, s0 => (match s0 with
    | .Expr e' _ => noComp e' && chkE P fns N sc e e'
    | _ => false)
  | .ret o, s0 => (match o, s0 with
    | none, .Return none _ => true
    | some e, .Return (some e') _ => chkE P fns N sc e e'
    | _, _ => false)
  | .ite c a b, s0 => (match s0 with
    | .If c' a' b' _ => noIf c' && chkE P fns N sc c c' && chkB P fns N sc a a' && chkB P fns N sc b b'
    | _ => false)
  | .for tg s b, s0 => (match s0 with
    | .For tg' it b' [] _ => noSet it && chkTg N sc (fun _ => true) tg tg' && chkSr P fns N sc s tg' it && chkB P fns N sc b b'
    | _ => false)
  | .whl c b, s0 => (match s0 with
    | .While c' b' [] _ => noIf c' && chkE P fns N sc c c' && chkB P fns N sc b b'
    | _ => false)
  | .raise _ _ _, _ => true
  | .bad, _ => true
  | .forK tg i b, s0 => (match s0 with
    | .For tg' (.Name x _) b' [] _ => decide (N[i]? = some x) && visB sc x && !(x == ("__debug__" : Str)) && !(x == ("__classdict__" : Str)) && chkTg N sc (fun _ => true) tg tg' && chkB P fns N sc b b'
    | _ => false)
def chkB (P : Pg) (fns : Nat → Option Fn) (N : List Str) (sc : Scope) : List Sm → List Stmt → Bool
  | [], [] => true
  | s :: ss, s' :: ss' => chkS P fns N sc s s' && chkB P fns N sc ss ss'
  | _, _ => false
end
section
variable {P : Pg} {fns : Nat → Option Fn} {ca fa : Nat → Addr} {fdt : Nat → FuncData} {C : Cal} {k : Nat} {X : Cx} {N : List Str} {sc : Scope} {W : XK}
/-- where a statement stands -/
structure GoodS (P : Pg) (fns : Nat → Option Fn) (ca fa : Nat → Addr) (fdt : Nat → FuncData) (C : Cal) (k : Nat) (X : Cx) (N : List Str) (sc : Scope) (W : XK) : Prop where
  g : Good P fns ca fa fdt C k X N sc W
  fn : ∀ x, X.fn x = true
  pass : PassesOwn (model X.prog X.w) X.A X.env X.xe
  kind : sc.kind = .function
theorem t_swap (G : GoodS P fns ca fa fdt C k X N sc W) {tg : Tg} {e : Ex} {tg' e' : Expr} {pos : Pos} (h : chkSwap P fns N sc tg e tg' e' = true) : SS ca C X W (.asg tg e) (.Assign [tg'] e' pos) := by
  have g := G.g
  have hk : X.env.scope.kind = .function := by rw [g.hsc]; exact G.kind
  unfold chkSwap at h
  split at h
  · split at h
    · obtain ⟨h, h9⟩ := ba2 h
      obtain ⟨h, h8⟩ := ba2 h
      obtain ⟨h, h7⟩ := ba2 h
      obtain ⟨h, h6⟩ := ba2 h
      obtain ⟨h, h5⟩ := ba2 h
      obtain ⟨h, h4⟩ := ba2 h
      obtain ⟨h, h3⟩ := ba2 h
      obtain ⟨h1, h2⟩ := ba2 h
      unfold swB at h2
      obtain ⟨h2, z3⟩ := ba2 h2
      obtain ⟨z1, z2⟩ := ba2 h2
      exact t_setLc g hk (of_decide_eq_true h1) (by simpa using z1) z2 (nb z3) h3 h4 h5 h6 h7 h8 h9
    · cases h
  · split at h
    · obtain ⟨h, h6⟩ := ba2 h
      obtain ⟨h, h5⟩ := ba2 h
      obtain ⟨h, h4⟩ := ba2 h
      obtain ⟨h, h3⟩ := ba2 h
      obtain ⟨h1, h2⟩ := ba2 h
      unfold par2 at h4
      obtain ⟨h4, z3⟩ := ba2 h4
      obtain ⟨z1, z2⟩ := ba2 h4
      have B := soundEs _ X sc W _ g h5
      exact t_par2 g (by rw [B.len]; rfl) (of_decide_eq_true h1) (of_decide_eq_true h2) (of_decide_eq_true h3) (of_decide_eq_true z2) (of_decide_eq_true z3) (B.sa h6) (swC_ok hk (by rw [g.hsc]; exact of_decide_eq_true z1))
    · cases h
  · split at h
    · obtain ⟨h, h9⟩ := ba2 h
      obtain ⟨h, h8⟩ := ba2 h
      obtain ⟨h, h7⟩ := ba2 h
      obtain ⟨h, h6⟩ := ba2 h
      obtain ⟨h, h5⟩ := ba2 h
      obtain ⟨h, h4⟩ := ba2 h
      obtain ⟨h, h3⟩ := ba2 h
      obtain ⟨h1, h2⟩ := ba2 h
      unfold par3 at h7
      obtain ⟨h7, z4⟩ := ba2 h7
      obtain ⟨h7, z3⟩ := ba2 h7
      obtain ⟨z1, z2⟩ := ba2 h7
      have B := soundEs _ X sc W _ g h8
      exact t_par3 g (by rw [B.len]; rfl) (of_decide_eq_true h1) (of_decide_eq_true h2) (of_decide_eq_true h3) (of_decide_eq_true h4) (of_decide_eq_true h5) (of_decide_eq_true h6) (of_decide_eq_true z2) (of_decide_eq_true z3) (of_decide_eq_true z4) (B.sa h9) (swC_ok hk (by rw [g.hsc]; exact of_decide_eq_true z1))
    · cases h
  · cases h
theorem t_asgAll (G : GoodS P fns ca fa fdt C k X N sc W) {tg : Tg} {e : Ex} {tg' e' : Expr} {pos : Pos} (h : chkAsg P fns N sc tg e tg' e' = true) : SS ca C X W (.asg tg e) (.Assign [tg'] e' pos) := by
  have g := G.g
  have hk : X.env.scope.kind = .function := by rw [g.hsc]; exact G.kind
  unfold chkAsg at h
  rcases Bool.or_eq_true_iff.mp h with h | h
  · obtain ⟨h, h4⟩ := ba2 h
    obtain ⟨h, h3⟩ := ba2 h
    obtain ⟨h1, h2⟩ := ba2 h
    refine t_asg (s_tg g.hN g.nd g.hsc g.calm (fun x _ => G.fn x) tg tg' h3) (soundE e X sc W e' g h4).1 (swN_ok (by rw [g.hsc]; exact h1) hk) (swC_ok hk (by rw [g.hsc]; exact okNone_ok h2)) ?_
    rw [tg_plain h3]
    rfl
  · exact t_swap G h
mutual
theorem soundS (G : GoodS P fns ca fa fdt C k X N sc W) : ∀ (x : Sm) (e : Stmt), chkS P fns N sc x e = true → SS ca C X W x e
  | .asg tg e, s0, h => by
    unfold chkS at h
    split at h
    · exact t_asgAll G h
    · cases h
  | .fld c o f e, s0, h => by
    unfold chkS at h
    split at h
    · obtain ⟨h, h4⟩ := ba2 h
      obtain ⟨h, h3⟩ := ba2 h
      obtain ⟨h1, h2⟩ := ba2 h
      have e1 := of_decide_eq_true h1
      subst e1
      exact t_fld G.g (of_decide_eq_true h2) (soundE o X sc W _ G.g h3).1 (soundE e X sc W _ G.g h4).1
    · cases h
  | .sub o i e, s0, h => by
    unfold chkS at h
    split at h
    · rename_i o' i' p' e' pos
      obtain ⟨h, h4⟩ := ba2 h
      obtain ⟨h, h3⟩ := ba2 h
      obtain ⟨h1, h2⟩ := ba2 h
      exact t_sub G.g (show swapsWith e' (some (.Subscript o' i' p')) pos.line X.env = pure false by cases e' <;> rfl) h1 (soundE o X sc W _ G.g h2).1 (soundE i X sc W _ G.g h3).1 (soundE e X sc W _ G.g h4).1
    · cases h
  | .expr e, s0, h => by
    unfold chkS at h
    split at h
    · obtain ⟨h1, h2⟩ := ba2 h
      exact t_expr h1 (soundE e X sc W _ G.g h2).1
    · cases h
  | .ret none, s0, h => by
    unfold chkS at h
    split at h
    · exact t_retN
    · contradiction
    · cases h
  | .ret (some e), s0, h => by
    unfold chkS at h
    split at h
    · contradiction
    · rename_i e0 e' pos heq
      cases heq
      exact t_ret (soundE e X sc W _ G.g h).1
    · cases h
  | .ite c a b, s0, h => by
    unfold chkS at h
    split at h
    · obtain ⟨h, h4⟩ := ba2 h
      obtain ⟨h, h3⟩ := ba2 h
      obtain ⟨h1, h2⟩ := ba2 h
      exact t_ite ((soundE c X sc W _ G.g h2).2 h1) (soundB G a _ h3) (soundB G b _ h4)
    · cases h
  | .for tg s b, s0, h => by
    unfold chkS at h
    split at h
    · obtain ⟨h, h4⟩ := ba2 h
      obtain ⟨h, h3⟩ := ba2 h
      obtain ⟨h1, h2⟩ := ba2 h
      exact t_for G.pass G.g.calm (soundSr s X sc W _ _ G.g h3) (s_tg G.g.hN G.g.nd G.g.hsc G.g.calm (fun x _ => G.fn x) tg _ h2) (soundB G b _ h4) h1
    · cases h
  | .whl c b, s0, h => by
    unfold chkS at h
    split at h
    · obtain ⟨h, h3⟩ := ba2 h
      obtain ⟨h1, h2⟩ := ba2 h
      exact t_whl G.pass ((soundE c X sc W _ G.g h2).2 h1) (soundB G b _ h3)
    · cases h
  | .raise _ _ _, s0, h => ⟨fun pins s σ H D I q => by
      obtain ⟨p, F, G, r, M, sr, er, q⟩ := q
      unfold evS at q
      exact q.elim⟩
  | .bad, s0, h => t_bad
  | .forK tg i b, s0, h => by
    unfold chkS at h
    split at h
    · obtain ⟨h, h6⟩ := ba2 h
      obtain ⟨h, h5⟩ := ba2 h
      obtain ⟨h, h4⟩ := ba2 h
      obtain ⟨h, h3⟩ := ba2 h
      obtain ⟨h1, h2⟩ := ba2 h
      exact t_forK G.g G.pass G.g.calm (of_decide_eq_true h1) h2 (nb h3) (nb h4) (s_tg G.g.hN G.g.nd G.g.hsc G.g.calm (fun x _ => G.fn x) tg _ h5) (soundB G b _ h6)
    · cases h
theorem soundB (G : GoodS P fns ca fa fdt C k X N sc W) : ∀ (x : List Sm) (e : List Stmt), chkB P fns N sc x e = true → SSs ca C X W x e
  | [], [], _ => t_nil
  | [], _ :: _, h => by unfold chkB at h; cases h
  | _ :: _, [], h => by unfold chkB at h; cases h
  | s :: ss, e :: es, h => by
    unfold chkB at h
    obtain ⟨h1, h2⟩ := ba2 h
    exact t_cons (soundS G s e h1) (soundB G ss es h2)
end
end
end Rw
end
section
set_option Elab.async false
set_option linter.all false
set_option maxRecDepth 100000
namespace Rw
open PySem PySem.Spec PyProof.Rows L2
/-- a def as the module holds it -/
structure Src where
  x : Str
  qual : Str
  params : Arguments
  body : List Stmt
  scope : Scope
def parB (sc : Scope) (x : Str) : Bool := match sc.names.lookup x with
  | some .local => true
  | some .cell => true
  | _ => false
def isFree : NameKind → Bool
  | .free => true
  | _ => false
def isFunK : ScopeKind → Bool
  | .function => true
  | _ => false
def scopeB (N ps : List Str) (sc : Scope) : Bool := isFunK sc.kind && !sc.isCoroutine && !sc.isGenerator && decide N.Nodup && decide (N.take ps.length = ps) && ps.all (parB sc) && sc.names.all (fun y => !isFree y.2)
theorem scopeB_ok {N ps : List Str} {sc : Scope} (h : scopeB N ps sc = true) : FnScope N ps sc := by
  unfold scopeB at h
  obtain ⟨h, h7⟩ := ba2 h
  obtain ⟨h, h6⟩ := ba2 h
  obtain ⟨h, h5⟩ := ba2 h
  obtain ⟨h, h4⟩ := ba2 h
  obtain ⟨h, h3⟩ := ba2 h
  obtain ⟨h1, h2⟩ := ba2 h
  refine ⟨?_, nb h2, nb h3, of_decide_eq_true h4, of_decide_eq_true h5, fun x hx => ?_, fun y hy z => ?_⟩
  · unfold isFunK at h1
    split at h1
    · assumption
    · cases h1
  · have := List.all_eq_true.mp h6 x hx
    unfold parB at this
    split at this
    · exact .inl (by assumption)
    · exact .inr (by assumption)
    · cases this
  · have := List.all_eq_true.mp h7 y hy
    rw [z] at this
    cases this
def fnC (P : Pg) (fns : Nat → Option Fn) (fn : Fn) (d : Src) : Bool := scopeB fn.names (fn.names.take fn.np) d.scope && chkB P fns fn.names d.scope fn.body d.body
theorem er_start {K : PySem.W.Frag} {p : List Addr} {F : Hp} {N : List Str} : ∀ {ds : List D} {vs : List V}, RDs K ca p F ds vs → ER K ca p F (ds.map some ++ List.replicate (N.length - ds.length) none) (L2.start N vs) := by
  intro ds vs h
  have hl := h.length
  refine ⟨by unfold L2.start; simp [hl], fun i d q => ?_⟩
  by_cases hi : i < ds.length
  · rw [List.getElem?_append_left (by simpa using hi), List.getElem?_map] at q
    cases qd : ds[i]? with
    | none => rw [qd] at q; cases q
    | some d' =>
      rw [qd] at q
      cases q
      obtain ⟨v, e1, e2⟩ := h.get qd
      refine ⟨v, ?_, e2⟩
      unfold L2.start
      rw [List.getElem?_append_left (by simpa [← hl] using hi), List.getElem?_map, e1]
      rfl
  · rw [List.getElem?_append_right (by simpa using hi), List.getElem?_replicate] at q
    split at q
    · cases q
    · cases q
section
variable {P : Pg} {fns : Nat → Option Fn} {ca fa : Nat → Addr} {fdt : Nat → FuncData} {prog : Program} {w : World} {K : PySem.W.Frag} {mg : Str → Option Value} {base : Heap}
theorem fn_zero {n : Nat} {f : Nat} {fn : Fn} (hn : (fn.names.take fn.np).length = fn.np) : FnOk prog w K mg base (L2.CX prog w) n (fa f) (fdt f) (fn.names.take fn.np) (spF K ca (run fns 0) f fn.np) := by
  refine ⟨fun vs H Q E h => by rw [hn]; exact h.1, ?_⟩
  intros
  rename_i h
  obtain ⟨_, p, F, G, M, ds, _, _, z⟩ := h
  exact z.elim
theorem all_fns (fx : Facts P fns w K mg ca fa fdt) (src : Nat → Src) (hF : ∀ f fn, fns f = some fn → FunD K (src f).x (src f).qual (src f).params (src f).body (src f).scope [] [] (fa f) (fdt f))
    (hC : ∀ f fn, fns f = some fn → fnC P fns fn (src f) = true) : ∀ (n f : Nat) (fn : Fn), fns f = some fn → FnOk prog w K mg base (L2.CX prog w) (2 * n) (fa f) (fdt f) (fn.names.take fn.np) (spF K ca (run fns n) f fn.np)
  | 0, f, fn, e => fn_zero (fx.npl f fn e)
  | n + 1, f, fn, e => by
    obtain ⟨c1, c2⟩ := ba2 (hC f fn e)
    have S := scopeB_ok c1
    have hn := fx.npl f fn e
    refine FunD.ok (N := fn.names) (k := 2 * n + 1) (hF f fn e) S (fun vs H Q E h => by rw [hn]; exact h.1) fun cdv A outer s H vs Q E hr hsp => ?_
    obtain ⟨hl, p, F, G, M, ds, sr, rd, h⟩ := hsp
    have G0 : GoodS P fns ca fa fdt (run fns n) (2 * n) (cxOf (L2.CX prog w) prog w K mg base fn.names (src f).qual (src f).scope (fa f) cdv A outer s H E) fn.names (src f).scope E :=
      ⟨⟨rfl, S.nd, rfl, rfl, hr, fx, fun f' fn' e' => all_fns fx src hF hC n f' fn' e', takes_of rfl rfl rfl rfl⟩, fun _ => rfl, passes_of rfl, S.kind⟩
    refine ⟨_, soundB G0 fn.body _ c2, p, F, G, ds.map some ++ List.replicate (fn.names.length - ds.length) none, M, sr, er_start rd, ?_⟩
    have ld : ds.length = fn.np := by rw [rd.length]; exact hl
    unfold run at h
    simp only [e] at h
    unfold fnV at h
    rw [decide_eq_true ld] at h
    simp only at h
    refine (Tk.bind (rel := relF K ca) h).mono fun o H1 ⟨p1, F1, x, M1, a1, b1, s1, r1, _, h1⟩ => ?_
    cases x with
    | nx r' =>
      cases o with
      | inl σ => exact Tk.ok (v := V.non) h1 s1 (show RD K ca p1 F1 (.t .non) .non from (show RT K ca F1 .non .non from rfl))
      | inr v => exact r1.elim
    | rt d =>
      cases o with
      | inl σ => exact r1.elim
      | inr v => exact Tk.ok (v := v) h1 s1 r1
end
end Rw
end
section
set_option Elab.async false
set_option linter.all false
set_option maxRecDepth 100000
namespace Rw
open PySem PySem.Spec PyProof.Rows L2
/-- one def of the program: its number, its text, how the module holds it, where -/
structure PE where
  id : Nat
  fn : Fn
  src : Src
  at_ : Str × Option Str
def PE.toDef (e : PE) : He.DefD := ⟨e.at_, e.src.x, e.src.qual, e.src.params, e.src.body, e.src.scope, [], []⟩
def getE : List PE → Nat → Option PE
  | [], _ => none
  | e :: r, f => match Nat.beq e.id f with
    | true => some e
    | false => getE r f
theorem getE_mem : ∀ {L : List PE} {f : Nat} {e : PE}, getE L f = some e → e ∈ L
  | [], _, _, h => by cases h
  | a :: r, f, e, h => by
    unfold getE at h
    split at h
    · cases h; exact List.mem_cons_self
    · exact List.mem_cons_of_mem _ (getE_mem h)
def fnsOf (L : List PE) (f : Nat) : Option Fn := (getE L f).map (·.fn)
def noSrc : Src := ⟨Str.empty, Str.empty, ⟨[], [], none, [], [], none, []⟩, [], ⟨.function, [], false, false, []⟩⟩
def srcOf (L : List PE) (f : Nat) : Src := match getE L f with
  | some e => e.src
  | none => noSrc
def locOf (L : List PE) (f : Nat) : Str × Option Str := match getE L f with
  | some e => e.at_
  | none => (Str.empty, none)
def cnOf (cn : List (Nat × Str)) (c : Nat) : Str := (cn.lookup c).getD Str.empty
def hasC (cn : List (Nat × Str)) (c : Nat) : Bool := (cn.lookup c).isSome
theorem lookup_mem {α : Type} {c : Nat} {x : α} : ∀ {l : List (Nat × α)}, l.lookup c = some x → (c, x) ∈ l
  | [], h => by cases h
  | (d, y) :: r, h => by
    unfold List.lookup at h
    split at h
    · rename_i q; cases h; rw [beq_iff_eq.mp q]; exact List.mem_cons_self
    · exact List.mem_cons_of_mem _ (lookup_mem h)
theorem hasC_mem {cn : List (Nat × Str)} {c : Nat} (h : hasC cn c = true) : (c, cnOf cn c) ∈ cn := by
  unfold hasC at h
  cases q : cn.lookup c with
  | none => rw [q] at h; cases h
  | some x =>
    unfold cnOf
    rw [q]
    exact lookup_mem q
def builtinNames : List Str := ["len", "int", "list", "tuple", "isinstance", "bool", "min", "max", "range", "enumerate", "str", "sum", "dict", "zip", "sorted", "set"]
def faL (P : Pg) (cn : List (Nat × Str)) : List He.Fa :=
  builtinNames.map .free ++ (P.gname.map (fun q => .glo q.2) ++ (P.tabs.map (fun q => .glo q.1) ++ (cn.map (fun q => .cls q.2) ++ (P.flds.map (fun q => .noat (cnOf cn q.1) q.2) ++ (P.meths.map (fun q => .meth (cnOf cn q.1) q.2.1) ++ (P.makes.map (fun q => .glo q.2.1) ++ P.makes.map (fun q => .mkr q.2.1)))))))
def tsL (P : Pg) : List He.Tab := P.tabs.map fun q => (fun K => He.ga K q.1, q.2.map (·.1))
mutual
def rtB (K : PySem.W.Frag) : T → Value → Bool
  | .non, u => (match u with
    | .none => true
    | _ => false)
  | .bl b, u => (match u with
    | .bool c => b == c
    | _ => false)
  | .int i, u => (match u with
    | .int j _ => decide (i = j)
    | _ => false)
  | .str x, u => (match u with
    | .str y _ => decide (x = y)
    | _ => false)
  | .tup l, u => (match u with
    | .ref a => (match K.lookup a with
      | some ⟨.type c, _, .seq its _, _⟩ => decide (c = "tuple") && (decide (its.size ≤ sizeLine) && rtBs K l its.toList)
      | _ => false)
    | _ => false)
  | .lst _, _ => false
  | .scr _, _ => false
  | .dct _ _, _ => false
  | .obj _ _ _, _ => false
def rtBs (K : PySem.W.Frag) : List T → List Value → Bool
  | [], us => (match us with
    | [] => true
    | _ => false)
  | t :: r, us => (match us with
    | u :: us => rtB K t u && rtBs K r us
    | _ => false)
end
mutual
theorem rtB_ok {ca : Nat → Addr} {K : PySem.W.Frag} : ∀ {t : T} {u : Value}, rtB K t u = true → ∃ v, RelV v u ∧ ∀ F, RT K ca F t v
  | .non, u, h => by
    unfold rtB at h
    split at h
    · exact ⟨.non, rfl, fun _ => rfl⟩
    · cases h
  | .bl b, u, h => by
    unfold rtB at h
    split at h
    · have e := eq_of_beq h; subst e; exact ⟨.bl b, rfl, fun _ => rfl⟩
    · cases h
  | .int i, u, h => by
    unfold rtB at h
    split at h
    · have e := of_decide_eq_true h; subst e; exact ⟨.int i, ⟨_, rfl⟩, fun _ => rfl⟩
    · cases h
  | .str i, u, h => by
    unfold rtB at h
    split at h
    · have e := of_decide_eq_true h; subst e; exact ⟨.str i, ⟨_, rfl⟩, fun _ => rfl⟩
    · cases h
  | .tup l, u, h => by
    unfold rtB at h
    split at h
    · split at h
      · rename_i a _ c od its n sl q
        obtain ⟨h1, h2⟩ := ba2 h
        obtain ⟨h3, h4⟩ := ba2 h2
        obtain ⟨vs, e1, e2⟩ := rtBs_ok h4
        exact ⟨.ref a, rfl, fun F => ⟨a, vs, rfl, .inr ⟨_, its, n, q, congrArg Value.type (of_decide_eq_true h1), rfl, of_decide_eq_true h3, e1⟩, e2 F⟩⟩
      · cases h
    · cases h
  | .lst _, u, h => by unfold rtB at h; cases h
  | .scr _, u, h => by unfold rtB at h; cases h
  | .dct _ _, u, h => by unfold rtB at h; cases h
  | .obj _ _ _, u, h => by unfold rtB at h; cases h
theorem rtBs_ok {ca : Nat → Addr} {K : PySem.W.Frag} : ∀ {l : List T} {us : List Value}, rtBs K l us = true → ∃ vs, Vals vs us ∧ ∀ F, RTs K ca F l vs
  | [], us, h => by
    unfold rtBs at h
    split at h
    · exact ⟨[], .nil, fun _ => rfl⟩
    · cases h
  | t :: r, us, h => by
    unfold rtBs at h
    split at h
    · obtain ⟨h1, h2⟩ := ba2 h
      obtain ⟨v, e1, e2⟩ := rtB_ok h1
      obtain ⟨vs, e3, e4⟩ := rtBs_ok h2
      exact ⟨v :: vs, .cons e1 e3, fun F => ⟨v, vs, rfl, e2 F, e4 F⟩⟩
    · cases h
end
def pairB (K : PySem.W.Frag) : List DictEntry → List (Str × T) → Bool
  | [], [] => true
  | e :: es, q :: l => (match e.key with
    | .str x _ => decide (x = q.1)
    | _ => false) && rtB K q.2 e.val && pairB K es l
  | _, _ => false
theorem pairB_ok {ca : Nat → Addr} {K : PySem.W.Frag} : ∀ {es : List DictEntry} {l : List (Str × T)}, pairB K es l = true → Paired (fun (e : DictEntry) (q : Str × T) => (∃ t, e.key = .str q.1 t) ∧ ∃ v, RelV v e.val ∧ ∀ F, RT K ca F q.2 v) es l
  | [], [], _ => .nil
  | [], _ :: _, h => by cases h
  | _ :: _, [], h => by cases h
  | e :: es, q :: l, h => by
    unfold pairB at h
    obtain ⟨h, h3⟩ := ba2 h
    obtain ⟨h1, h2⟩ := ba2 h
    refine .cons ⟨?_, rtB_ok h2⟩ (pairB_ok h3)
    split at h1
    · rename_i x t q1
      have e1 := of_decide_eq_true h1
      subst e1
      exact ⟨t, q1⟩
    · cases h1
def exB (P : Pg) (K : PySem.W.Frag) : Bool := (P.consts.all fun q => match PySem.W.nsIn K mainGlobals q.1 with
    | some (some u) => rtB K q.2 u
    | _ => false) && P.tabs.all fun q => match K.lookup (He.ga K q.1) with
    | some ⟨_, _, .dict es _, _⟩ => pairB K es.toList q.2
    | _ => false
def saneB (P : Pg) (L : List PE) (cn : List (Nat × Str)) : Bool :=
  (P.gname.all fun q => decide (locOf L q.1 = (q.2, none)) && (getE L q.1).isSome) && ((P.meths.all fun q => decide (locOf L q.2.2 = (cnOf cn q.1, some q.2.1)) && hasC cn q.1) &&
  ((P.makes.all fun q => decide (locOf L q.2.2 = (q.2.1, some ("__init__" : Str))) && decide (cnOf cn q.1 = q.2.1)) && ((P.flds.all fun q => hasC cn q.1) && L.all fun e => decide ((e.fn.names.take e.fn.np).length = e.fn.np))))
def BindsEq (s : Src) (ps : List Str) : Prop := ∀ (kV doc pm : Value) (an : Option Addr) (cdv ct : Value) (us : List Value), us.length = ps.length → bindArgs (PySem.W.fnOf s.x s.qual s.params s.body s.scope .none kV doc pm an cdv ct) ⟨us, []⟩ = pure (ps.zip us)
def faOf (K : PySem.W.Frag) (L : List PE) (f : Nat) : Addr := He.fAd K (locOf L f)
def caOf (K : PySem.W.Frag) (cn : List (Nat × Str)) (c : Nat) : Addr := He.ga K (cnOf cn c)
theorem fns_get {L : List PE} {f : Nat} {fn : Fn} (h : fnsOf L f = some fn) : ∃ e, getE L f = some e ∧ e.fn = fn := by
  unfold fnsOf at h
  cases q : getE L f with
  | none => rw [q] at h; cases h
  | some e => rw [q] at h; exact ⟨e, rfl, Option.some.inj h⟩
theorem facts_of {P : Pg} {L : List PE} {cn : List (Nat × Str)} {w : World} {K : PySem.W.Frag} {h hh : Heap} {mg : Str → Option Value} (X : K.In h) (G : h.Ns mainGlobals mg) (c : He.SaysX (faL P cn) (L.map PE.toDef) (tsL P) [] (exB P) w hh K) (sn : saneB P L cn = true)
    (hb : ∀ e ∈ L, BindsEq e.src (e.fn.names.take e.fn.np)) :
    ∃ fdt : Nat → FuncData, Facts P (fnsOf L) w K mg (caOf K cn) (faOf K L) fdt ∧ ∀ f fn, fnsOf L f = some fn → FunD K (srcOf L f).x (srcOf L f).qual (srcOf L f).params (srcOf L f).body (srcOf L f).scope [] [] (faOf K L f) (fdt f) := by
  have cd := c.t.d
  have fact : ∀ f, f ∈ faL P cn → f.ok K = true := fun f hf => cd.facts hf
  have ex : ∀ f, ∃ fd, ∀ fn, fnsOf L f = some fn → FunD K (srcOf L f).x (srcOf L f).qual (srcOf L f).params (srcOf L f).body (srcOf L f).scope [] [] (faOf K L f) fd := fun f => by
    cases q : getE L f with
    | none =>
      refine ⟨PySem.W.fnOf Str.empty Str.empty noSrc.params [] noSrc.scope .none .none .none .none none .none .none, fun fn e => ?_⟩
      unfold fnsOf at e
      rw [q] at e
      cases e
    | some e =>
      obtain ⟨fd, F⟩ := cd.defs (d := e.toDef) (List.mem_map_of_mem (getE_mem q))
      refine ⟨fd, fun fn _ => ?_⟩
      unfold srcOf faOf locOf
      rw [q]
      exact F
  obtain ⟨fdt, hF⟩ : ∃ fdt : Nat → FuncData, ∀ f fn, fnsOf L f = some fn → FunD K (srcOf L f).x (srcOf L f).qual (srcOf L f).params (srcOf L f).body (srcOf L f).scope [] [] (faOf K L f) (fdt f) := ⟨fun f => Classical.choose (ex f), fun f => Classical.choose_spec (ex f)⟩
  unfold saneB at sn
  obtain ⟨s1, sn⟩ := ba2 sn
  obtain ⟨s2, sn⟩ := ba2 sn
  obtain ⟨s3, sn⟩ := ba2 sn
  obtain ⟨s4, s5⟩ := ba2 sn
  refine ⟨fdt, ⟨?_, ?_, ?_, ?_, ?_, ?_, ?_, ?_, ?_⟩, hF⟩
  · intro x hx
    refine He.free_ok X G (fact (.free x) ?_)
    unfold faL
    exact List.mem_append_left _ (List.mem_map_of_mem hx)
  · intro x t e
    have := (ba2 c.more).1
    have h2 := List.all_eq_true.mp this (x, t) e
    cases q : PySem.W.nsIn K mainGlobals x with
    | none => simp only [q] at h2; cases h2
    | some o =>
      cases o with
      | none => simp only [q] at h2; cases h2
      | some u =>
        simp only [q] at h2
        obtain ⟨v, e1, e2⟩ := rtB_ok h2
        exact ⟨u, v, PySem.W.mg_of X G q, e1, e2⟩
  · intro x l hm
    obtain ⟨n, hn, en⟩ := List.mem_iff_getElem.mp hm
    have e : P.tabs[n]? = some (x, l) := by rw [List.getElem?_eq_getElem hn, en]
    have g := He.glo_ok X G (fact (.glo x) (by
      unfold faL
      exact List.mem_append_right _ (List.mem_append_right _ (List.mem_append_left _ (List.mem_map.mpr ⟨(x, l), hm, rfl⟩)))))
    have ht : (tsL P)[n]? = some (fun K => He.ga K x, l.map (·.1)) := by
      unfold tsL
      rw [List.getElem?_map, e]
      rfl
    obtain ⟨es, m, kd⟩ := c.t.tab n ht
    have h2 := List.all_eq_true.mp (ba2 c.more).2 (x, l) hm
    have kd' : KDict K w (He.ga K x) es m := kd
    simp only [kd'.at_] at h2
    exact ⟨He.ga K x, es, m, g, kd', pairB_ok h2⟩
  · intro f x hm
    have z := List.all_eq_true.mp s1 (f, x) hm
    obtain ⟨z1, z2⟩ := ba2 z
    have z1 := of_decide_eq_true z1
    have g := He.glo_ok X G (fact (.glo x) (by
      unfold faL
      exact List.mem_append_right _ (List.mem_append_left _ (List.mem_map.mpr ⟨(f, x), hm, rfl⟩))))
    have ef : faOf K L f = He.ga K x := by unfold faOf; rw [z1]; rfl
    rw [ef]
    refine ⟨g, ?_⟩
    cases q : getE L f with
    | none => rw [q] at z2; cases z2
    | some e =>
      have := (hF f e.fn (by unfold fnsOf; rw [q]; rfl)).kp
      rw [ef] at this
      exact this
  · intro k f hm
    have z := List.all_eq_true.mp s4 (k, f) hm
    have a := fact (.cls (cnOf cn k)) (by
      unfold faL
      exact List.mem_append_right _ (List.mem_append_right _ (List.mem_append_right _ (List.mem_append_left _ (List.mem_map.mpr ⟨(k, cnOf cn k), hasC_mem z, rfl⟩)))))
    have b := fact (.noat (cnOf cn k) f) (by
      unfold faL
      exact List.mem_append_right _ (List.mem_append_right _ (List.mem_append_right _ (List.mem_append_right _ (List.mem_append_left _ (List.mem_map.mpr ⟨(k, f), hm, rfl⟩))))))
    exact ⟨He.cls_ok a, He.noat_ok b⟩
  · intro k m f hm
    have z := List.all_eq_true.mp s2 (k, m, f) hm
    obtain ⟨z1, z2⟩ := ba2 z
    have z1 := of_decide_eq_true z1
    have a := fact (.cls (cnOf cn k)) (by
      unfold faL
      exact List.mem_append_right _ (List.mem_append_right _ (List.mem_append_right _ (List.mem_append_left _ (List.mem_map.mpr ⟨(k, cnOf cn k), hasC_mem z2, rfl⟩)))))
    have b := fact (.meth (cnOf cn k) m) (by
      unfold faL
      exact List.mem_append_right _ (List.mem_append_right _ (List.mem_append_right _ (List.mem_append_right _ (List.mem_append_right _ (List.mem_append_left _ (List.mem_map.mpr ⟨(k, m, f), hm, rfl⟩)))))))
    have ef : faOf K L f = He.ma K (He.ga K (cnOf cn k)) m := by unfold faOf; rw [z1]; rfl
    rw [ef]
    exact ⟨He.cls_ok a, He.meth_ok b⟩
  · intro k x f hm
    have z := List.all_eq_true.mp s3 (k, x, f) hm
    obtain ⟨z1, z2⟩ := ba2 z
    have z1 := of_decide_eq_true z1
    have z2 := of_decide_eq_true z2
    have a := He.glo_ok X G (fact (.glo x) (by
      unfold faL
      exact List.mem_append_right _ (List.mem_append_right _ (List.mem_append_right _ (List.mem_append_right _ (List.mem_append_right _ (List.mem_append_right _ (List.mem_append_left _ (List.mem_map.mpr ⟨(k, x, f), hm, rfl⟩)))))))))
    have b := fact (.mkr x) (by
      unfold faL
      exact List.mem_append_right _ (List.mem_append_right _ (List.mem_append_right _ (List.mem_append_right _ (List.mem_append_right _ (List.mem_append_right _ (List.mem_append_right _ (List.mem_map.mpr ⟨(k, x, f), hm, rfl⟩))))))))
    have ef : faOf K L f = He.ma K (He.ga K x) "__init__" := by unfold faOf; rw [z1]; rfl
    have ec : caOf K cn k = He.ga K x := by unfold caOf; rw [show cnOf cn k = x from z2]
    rw [ef, ec]
    exact ⟨a, He.mkr_ok b⟩
  · intro f fn e
    obtain ⟨en, q, rfl⟩ := fns_get e
    refine (hF f en.fn e).bindsN ?_
    unfold srcOf
    rw [q]
    exact hb en (getE_mem q)
  · intro f fn e
    obtain ⟨en, q, rfl⟩ := fns_get e
    have z := List.all_eq_true.mp s5 en (getE_mem q)
    exact of_decide_eq_true z
theorem law_of {P : Pg} {L : List PE} {K : PySem.W.Frag} {ca : Nat → Addr} {n f : Nat} {H : Hp} {a : Addr} {ns : List Int} {M : Ar} (hS : SqL K H a (ns.map V.int)) (hr : run (fnsOf L) n f [.t (.scr ns)] [] = .ok (.t (.bl true)) M) :
    spF K ca (run (fnsOf L) n) f 1 [.ref a] H (fun v _ => v = .bl true) fun _ _ _ => False := by
  refine ⟨rfl, [], H, fun _ => none, [], [.t (.scr ns)], ⟨rfl, List.nodup_nil, Sub.refl _, (fun a o e => by cases e), fun a => .inr rfl, (fun a h => nomatch h), (fun a h => nomatch h), fun i a o h => by simp at h⟩, ⟨_, _, rfl, (show RT K ca H (.scr ns) (.ref a) from ⟨a, rfl, hS⟩), rfl⟩, ?_⟩
  rw [hr]
  intro p' F' H' v _ _ _ r
  exact r
/-- the end of a law: what leaves a def may hang on the world -/
theorem walk_w {l : PySem.W.OpenLaw} {n k : Nat} {q : Program} {loose : List Str} {XP : (Str → Option Value) → Heap → Prop} {YP : World → Heap → Prop} {d : DefRec} {CX : World → CXT} {x : Str}
    (hn : l.most = some n) (hn2 : n ≤ sizeLine) (hdf : d.params.defaults = []) (hr : Room k callerA)
    (F : ∀ (w : World) (mg : Str → Option Value) (fa : Addr) (h : Heap), YP w h → h.Ns mainGlobals mg → mg d.name = some (.ref fa) →
      ∃ (K : PySem.W.Frag) (fd : FuncData) (sp : Sp), K.In h ∧ (∀ (s : Shared) (u : Value), BindsTo s fd ⟨[u], []⟩ [(x, u)]) ∧
        (∀ (H : Hp) (a : Addr) (ns : List Int), ns.length ≤ n → Only H → SqL K H a (ns.map V.int) → sp [.ref a] H (fun v _ => v = .bl true) fun _ _ _ => False) ∧
        ∀ base : Heap, K.In base → base.Ns mainGlobals mg → FnOk l.prog w K mg base (CX w) k fa fd [x] sp)
    (hCX : ∀ (w : World) (H : Hp) (s : Shared) (e : Value) (s' : Shared), CX w [] H s (fun _ _ _ => False) e s' → False) :
    PySem.W.WalkO q loose XP YP l.row.toRowW d [] (fun f vs => PySem.call f vs) := by
  refine Att.attach_call hn hdf fun w s0 s1 mg mb fa o pm cd doc a vs ns G Y ho hd hcd hmg hobj hints hlen hg => ?_
  obtain ⟨K, fd, sp, KX, hb, hsp, hF⟩ := F w mg fa _ Y G.T.g hmg
  exact law_call KX G.T.g G.T.b G.T.builtins G.T.nolimit hg hobj hints (Nat.le_trans hlen hn2) hr hF hb (fun H hO hS => hsp H a ns hlen hO hS) fun H e s' => hCX w H s1 e s'
theorem no_cx {prog : Program} {w : World} {H : Hp} {s : Shared} {e : Value} {s' : Shared} (h : L2.CX prog w [] H s (fun _ _ _ => False) e s') : False := by
  obtain ⟨a, B, H', cls, d, _, _, _, _, _, _, _, z⟩ := h
  exact z
end Rw
end
section
set_option Elab.async false
set_option linter.all false
set_option maxRecDepth 100000
namespace Rw.Pr
open PySem
def t_OPS : List (Str × T) := [("stop", (.tup [(.str "stop"), (.int 0), (.int 0), (.int 0)])), ("back", (.tup [(.str "back"), (.int 1), (.int 0), (.int 0)])), ("say", (.tup [(.str "say"), (.int 4), (.int 1), (.int 0)])), ("take!", (.tup [(.str "take!"), (.int 16), (.int 1), (.int 1)])), ("move", (.tup [(.str "move"), (.int 32), (.int 2), (.int 0)])), ("add", (.tup [(.str "add"), (.int 48), (.int 2), (.int 0)])), ("less", (.tup [(.str "less"), (.int 64), (.int 2), (.int 0)])), ("load", (.tup [(.str "load"), (.int 80), (.int 1), (.int 1)])), ("store", (.tup [(.str "store"), (.int 84), (.int 1), (.int 1)])), ("jump", (.tup [(.str "jump"), (.int 96), (.int 0), (.int 1)])), ("call", (.tup [(.str "call"), (.int 97), (.int 0), (.int 1)])), ("skip", (.tup [(.str "skip"), (.int 99), (.int 0), (.int 1)])), ("zero", (.tup [(.str "zero"), (.int 100), (.int 1), (.int 1)])), ("same", (.tup [(.str "same"), (.int 112), (.int 2), (.int 1)])), ("copy", (.tup [(.str "copy"), (.int 128), (.int 0), (.int 2)]))]
def f_is_number : Fn := ⟨["thing", "low", "high"], 3, [.ret (some (.and [(.bi .isInt [(.var 0)]), (.not (.bi .isBool [(.var 0)])), (.chain .le .le (.var 1) (.var 0) (.var 2))]))]⟩
def f_need_words_B0 : List Sm := [.ite (.or [(.cmp .eq (.var 1) (.glo (.int 256))), (.not (.call .clean 0 [(.var 2), (.con (.int 0)), (.bin .sub false (.glo (.int 256)) (.con (.int 1)))]))]) [.raise 12 0 [(.var 1)]] []]
def f_need_words_L0 : Sm := .for (.tup [(.var 1), (.var 2)]) (.enu (.var 0)) f_need_words_B0
def f_need_words : Fn := ⟨["words", "number", "word"], 1, [f_need_words_L0]⟩
def f_kind_of_B0 : List Sm := [.asg (.tup [(.var 2), (.var 3), (.var 4)]) (.slc false (.tabGet t_OPS (.var 1)) (some (.con (.int 1))) none),
    .ite (.chain .le .lt (.var 2) (.var 0) (.bin .add false (.var 2) (.idx (.glo (.tup [(.int 1), (.int 4), (.int 16)])) (.var 3)))) [.asg (.var 5) (.bin .sub false (.var 0) (.var 2)),
    .ret (some (.tuple [(.var 1), (.idx (.list false [(.list false []), (.list false [(.var 5)]), (.list false [(.bin .fdiv false (.var 5) (.con (.int 4))), (.bin .mod false (.var 5) (.con (.int 4)))])]) (.var 3)), (.var 4), (.con .non)]))] []]
def f_kind_of_L0 : Sm := .for (.var 1) (.tab t_OPS) f_kind_of_B0
def f_kind_of : Fn := ⟨["word", "op", "base", "many", "more", "rest"], 1, [.ite (.chain .le .lt (.glo (.int 144)) (.var 0) (.bin .add false (.glo (.int 144)) (.bin .mul false (.con (.int 4)) (.glo (.int 8))))) [.ret (some (.tuple [(.con (.str "take")), (.list false [(.bin .fdiv false (.bin .sub false (.var 0) (.glo (.int 144))) (.glo (.int 8)))]), (.con (.int 0)), (.bin .mod false (.bin .sub false (.var 0) (.glo (.int 144))) (.glo (.int 8)))]))] [],
    f_kind_of_L0,
    .ret (some (.con .non))]⟩
def f_row_at : Fn := ⟨["words", "place", "found", "op", "boxes", "more", "short", "numbers"], 2, [.asg (.var 2) (.ife (.chain .le .lt (.con (.int 0)) (.var 1) (.bi .len [(.var 0)])) (.call .clean 3 [(.idx (.var 0) (.var 1))]) (.con .non)),
    .ite (.or [(.isN true (.var 2)), (.cmp .gt (.bin .add false (.bin .add false (.var 1) (.con (.int 1))) (.idx (.var 2) (.con (.int 2)))) (.bi .len [(.var 0)]))]) [.ret (some (.con .non))] [],
    .asg (.tup [(.var 3), (.var 4), (.var 5), (.var 6)]) (.var 2),
    .asg (.var 7) (.bi (.list false) [(.slc false (.var 0) (some (.bin .add false (.var 1) (.con (.int 1)))) (some (.bin .add false (.bin .add false (.var 1) (.con (.int 1))) (.var 5))))]),
    .ret (some (.tuple [(.var 3), (.var 4), (.ife (.isN false (.var 6)) (.list false [(.var 6)]) (.var 7)), (.bin .add false (.con (.int 1)) (.var 5))]))]⟩
def f_signed : Fn := ⟨["word"], 1, [.ret (some (.ife (.cmp .ge (.var 0) (.bin .fdiv false (.glo (.int 256)) (.con (.int 2)))) (.bin .sub false (.var 0) (.glo (.int 256))) (.var 0)))]⟩
def f_goals_of : Fn := ⟨["place", "row", "op", "boxes", "numbers", "many"], 2, [.asg (.tup [(.var 2), (.var 3), (.var 4), (.var 5)]) (.var 1),
    .ite (.cmp .isIn (.var 2) (.tuple [(.con (.str "stop")), (.con (.str "back"))])) [.ret (some (.tuple [(.list false []), (.con (.bl false))]))] [],
    .ite (.cmp .eq (.var 2) (.con (.str "jump"))) [.ret (some (.tuple [(.list false [(.idx (.var 4) (.con (.int 0)))]), (.con (.bl false))]))] [],
    .ite (.cmp .eq (.var 2) (.con (.str "skip"))) [.ret (some (.tuple [(.list false [(.bin .add false (.bin .add false (.var 0) (.var 5)) (.call .clean 5 [(.idx (.var 4) (.con (.int 0)))]))]), (.con (.bl false))]))] [],
    .ret (some (.tuple [(.ife (.cmp .isIn (.var 2) (.tuple [(.con (.str "call")), (.con (.str "zero")), (.con (.str "same"))])) (.list false [(.idx (.var 4) (.con (.int 0)))]) (.list false [])), (.con (.bl true))]))]⟩
def f_Machine___init__ : Fn := ⟨["self", "words", "begin"], 3, [.fld 0 (.var 0) "words" (.var 1),
    .fld 0 (.var 0) "cells" (.bin .add true (.bi (.list false) [(.var 1)]) (.bin .mul false (.list false [(.con (.int 0))]) (.bin .sub false (.glo (.int 256)) (.bi .len [(.var 1)])))),
    .fld 0 (.var 0) "boxes" (.bin .mul true (.list false [(.con (.int 0))]) (.con (.int 4))),
    .fld 0 (.var 0) "place" (.var 2),
    .fld 0 (.var 0) "calls" (.list true []),
    .fld 0 (.var 0) "says" (.list true []),
    .fld 0 (.var 0) "why" (.con (.str "")),
    .fld 0 (.var 0) "past" (.list true [])]⟩
def f_Machine_step : Fn := ⟨["self", "row"], 1, [.ite (.not (.chain .le .lt (.con (.int 0)) (.attr 0 (.var 0) "place") (.bi .len [(.attr 0 (.var 0) "words")]))) [.fld 0 (.var 0) "why" (.con (.str "end")),
    .ret (some (.con .non))] [],
    .asg (.var 1) (.call .clean 4 [(.attr 0 (.var 0) "words"), (.attr 0 (.var 0) "place")]),
    .ite (.isN true (.var 1)) [.fld 0 (.var 0) "why" (.con (.str "none")),
    .ret (some (.con .non))] [],
    .expr (.me .append (.attr 0 (.var 0) "past") [(.attr 0 (.var 0) "place")]),
    .expr (.meth 0 "do" 9 (.var 0) [(.var 1)]),
    .ret (some (.con .non))]⟩
def f_Machine_do : Fn := ⟨["self", "row", "op", "boxes", "numbers", "many", "goals", "behind"], 2, [.asg (.tup [(.var 2), (.var 3), (.var 4), (.var 5)]) (.var 1),
    .asg (.var 6) (.idx (.call .clean 6 [(.attr 0 (.var 0) "place"), (.var 1)]) (.con (.int 0))),
    .asg (.var 7) (.bin .add false (.attr 0 (.var 0) "place") (.var 5)),
    .ite (.cmp .isIn (.var 2) (.tuple [(.con (.str "jump")), (.con (.str "skip"))])) [.fld 0 (.var 0) "place" (.idx (.var 6) (.con (.int 0)))] [.ite (.cmp .eq (.var 2) (.con (.str "zero"))) [.fld 0 (.var 0) "place" (.ife (.cmp .eq (.idx (.attr 0 (.var 0) "boxes") (.idx (.var 3) (.con (.int 0)))) (.con (.int 0))) (.idx (.var 6) (.con (.int 0))) (.var 7))] [.ite (.cmp .eq (.var 2) (.con (.str "same"))) [.fld 0 (.var 0) "place" (.ife (.cmp .eq (.idx (.attr 0 (.var 0) "boxes") (.idx (.var 3) (.con (.int 0)))) (.idx (.attr 0 (.var 0) "boxes") (.idx (.var 3) (.con (.int 1))))) (.idx (.var 6) (.con (.int 0))) (.var 7))] [.ite (.cmp .eq (.var 2) (.con (.str "call"))) [.expr (.meth 0 "go_down" 10 (.var 0) [(.idx (.var 6) (.con (.int 0))), (.var 7)])] [.ite (.cmp .eq (.var 2) (.con (.str "back"))) [.expr (.meth 0 "come_back" 11 (.var 0) [])] [.ite (.cmp .eq (.var 2) (.con (.str "stop"))) [.fld 0 (.var 0) "why" (.con (.str "stop"))] [.expr (.meth 0 "reckon" 12 (.var 0) [(.var 2), (.var 3), (.var 4)]),
    .fld 0 (.var 0) "place" (.var 7)]]]]]]]⟩
def f_Machine_go_down : Fn := ⟨["self", "goal", "behind"], 3, [.ite (.cmp .eq (.bi .len [(.attr 0 (.var 0) "calls")]) (.glo (.int 16))) [.fld 0 (.var 0) "why" (.con (.str "deep"))] [.expr (.me .append (.attr 0 (.var 0) "calls") [(.var 2)]),
    .fld 0 (.var 0) "place" (.var 1)]]⟩
def f_Machine_come_back : Fn := ⟨["self"], 1, [.ite (.cmp .eq (.attr 0 (.var 0) "calls") (.list false [])) [.fld 0 (.var 0) "why" (.con (.str "back"))] [.fld 0 (.var 0) "place" (.me .pop (.attr 0 (.var 0) "calls") [])]]⟩
def f_Machine_reckon : Fn := ⟨["self", "op", "boxes", "numbers", "here", "other", "worth"], 4, [.ite (.cmp .isIn (.var 1) (.tuple [(.con (.str "take")), (.con (.str "take!"))])) [.sub (.attr 0 (.var 0) "boxes") (.idx (.var 2) (.con (.int 0))) (.idx (.var 3) (.con (.int 0)))] [.ite (.cmp .eq (.var 1) (.con (.str "load"))) [.sub (.attr 0 (.var 0) "boxes") (.idx (.var 2) (.con (.int 0))) (.idx (.attr 0 (.var 0) "cells") (.idx (.var 3) (.con (.int 0))))] [.ite (.cmp .eq (.var 1) (.con (.str "store"))) [.sub (.attr 0 (.var 0) "cells") (.idx (.var 3) (.con (.int 0))) (.idx (.attr 0 (.var 0) "boxes") (.idx (.var 2) (.con (.int 0))))] [.ite (.cmp .eq (.var 1) (.con (.str "copy"))) [.sub (.attr 0 (.var 0) "cells") (.idx (.var 3) (.con (.int 1))) (.idx (.attr 0 (.var 0) "cells") (.idx (.var 3) (.con (.int 0))))] [.ite (.cmp .eq (.var 1) (.con (.str "say"))) [.expr (.me .append (.attr 0 (.var 0) "says") [(.idx (.attr 0 (.var 0) "boxes") (.idx (.var 2) (.con (.int 0))))])] [.asg (.tup [(.var 4), (.var 5)]) (.tuple [(.idx (.attr 0 (.var 0) "boxes") (.idx (.var 2) (.con (.int 0)))), (.idx (.attr 0 (.var 0) "boxes") (.idx (.var 2) (.con (.int 1))))]),
    .asg (.var 6) (.pick ["move", "add", "less"] [(.var 5), (.bin .add false (.var 4) (.var 5)), (.bin .sub false (.var 4) (.var 5))] (.var 1)),
    .sub (.attr 0 (.var 0) "boxes") (.idx (.var 2) (.con (.int 0))) (.bin .mod false (.var 6) (.glo (.int 256)))]]]]]]⟩
def f_run_B0 : List Sm := [.expr (.meth 0 "step" 8 (.var 3) [])]
def f_run_L0 : Sm := .whl (.and [(.cmp .eq (.attr 0 (.var 3) "why") (.con (.str ""))), (.cmp .lt (.bi .len [(.attr 0 (.var 3) "past")]) (.var 2))]) f_run_B0
def f_run : Fn := ⟨["words", "begin", "most", "machine"], 3, [.expr (.call .clean 1 [(.var 0)]),
    .ite (.not (.call .clean 0 [(.var 1), (.con (.int 0)), (.bin .sub false (.glo (.int 256)) (.con (.int 1)))])) [.raise 13 0 [(.con (.int 0))]] [],
    .ite (.not (.call .clean 0 [(.var 2), (.con (.int 0)), (.glo (.int 1000))])) [.raise 14 0 [(.con (.str "no such count"))]] [],
    .asg (.var 3) (.make 0 7 [(.bi (.list false) [(.var 0)]), (.var 1)]),
    f_run_L0,
    .ret (some (.tuple [(.attr 0 (.var 3) "says"), (.attr 0 (.var 3) "why"), (.attr 0 (.var 3) "past")]))]⟩
def f_need_begins_B0 : List Sm := [.ite (.or [(.cmp .eq (.var 1) (.glo (.int 16))), (.not (.call .clean 0 [(.var 2), (.con (.int 0)), (.bin .sub false (.glo (.int 256)) (.con (.int 1)))]))]) [.raise 13 0 [(.var 1)]] []]
def f_need_begins_L0 : Sm := .for (.tup [(.var 1), (.var 2)]) (.enu (.var 0)) f_need_begins_B0
def f_need_begins : Fn := ⟨["begins", "number", "place"], 1, [f_need_begins_L0]⟩
def f_Trace___init___C0 : Ex := .comp true (.var 4) (.seq (.var 2)) none (.tuple [(.var 4), (.glo (.int (-1)))])
def f_Trace___init___C1 : Ex := .comp true (.var 6) (.seq (.var 3)) (some (.cmp .ne (.var 6) (.tuple [(.var 4), (.var 5)]))) (.var 6)
def f_Trace___init___B0 : List Sm := [.asg (.tup [(.var 4), (.var 5)]) (.bi .minP [(.var 3)]),
    .asg (.var 3) f_Trace___init___C1,
    .expr (.me .extend (.var 3) [(.meth 1 "come" 71 (.var 0) [(.var 4), (.var 5)])])]
def f_Trace___init___L0 : Sm := .whl (.cmp .ne (.var 3) (.list false [])) f_Trace___init___B0
def f_Trace___init__ : Fn := ⟨["self", "words", "begins", "waiting", "place", "start", "one"], 3, [.fld 1 (.var 0) "words" (.var 1),
    .fld 1 (.var 0) "rows" (.dict true),
    .fld 1 (.var 0) "inner" (.dict true),
    .fld 1 (.var 0) "apart" (.list true []),
    .asg (.var 3) f_Trace___init___C0,
    f_Trace___init___L0]⟩
def f_Trace_come_B0 : List Sm := [.sub (.attr 1 (.var 0) "inner") (.bin .add false (.var 1) (.var 4)) (.var 1)]
def f_Trace_come_L0 : Sm := .for (.var 4) (.rng [(.con (.int 1)), (.idx (.var 3) (.con (.int 3)))]) f_Trace_come_B0
def f_Trace_come_C0 : Ex := .comp false (.var 7) (.seq (.var 5)) none (.tuple [(.var 7), (.var 1)])
def f_Trace_come : Fn := ⟨["self", "place", "start", "row", "further", "goals", "goes_on", "goal"], 3, [.ite (.or [(.not (.chain .le .lt (.con (.int 0)) (.var 1) (.bi .len [(.attr 1 (.var 0) "words")]))), (.cmp .isIn (.var 1) (.attr 1 (.var 0) "rows"))]) [.ret (some (.list false []))] [],
    .asg (.var 3) (.call .clean 4 [(.attr 1 (.var 0) "words"), (.var 1)]),
    .ite (.or [(.cmp .isIn (.var 1) (.attr 1 (.var 0) "inner")), (.and [(.isN false (.var 3)), (.meth 1 "is_over_one" 72 (.var 0) [(.var 1), (.var 3)])])]) [.expr (.me .append (.attr 1 (.var 0) "apart") [(.tuple [(.var 2), (.var 1)])]),
    .ret (some (.list false []))] [],
    .ite (.isN true (.var 3)) [.ret (some (.list false []))] [],
    .sub (.attr 1 (.var 0) "rows") (.var 1) (.var 3),
    f_Trace_come_L0,
    .asg (.tup [(.var 5), (.var 6)]) (.call .clean 6 [(.var 1), (.var 3)]),
    .ret (some (.bin .add false f_Trace_come_C0 (.bin .mul false (.list false [(.tuple [(.bin .add false (.var 1) (.idx (.var 3) (.con (.int 3)))), (.var 1)])]) (.bi .int [(.var 6)]))))]⟩
def f_Trace_is_over_one_C0 : Ex := .comp false (.var 4) (.rng [(.con (.int 1)), (.idx (.var 2) (.con (.int 3)))]) none (.bin .add false (.var 1) (.var 4))
def f_Trace_is_over_one_C1 : Ex := .comp false (.var 4) (.seq (.var 3)) (some (.or [(.cmp .isIn (.var 4) (.attr 1 (.var 0) "rows")), (.cmp .isIn (.var 4) (.attr 1 (.var 0) "inner"))])) (.var 4)
def f_Trace_is_over_one : Fn := ⟨["self", "place", "row", "further", "one"], 3, [.asg (.var 3) f_Trace_is_over_one_C0,
    .ret (some (.cmp .ne f_Trace_is_over_one_C1 (.list false [])))]⟩
def f_come_to_C0 : Ex := .comp false (.var 3) (.seq (.bi .sortD [(.attr 1 (.var 2) "rows")])) none (.tuple [(.var 3), (.idx (.idx (.attr 1 (.var 2) "rows") (.var 3)) (.con (.int 0)))])
def f_come_to : Fn := ⟨["words", "begins", "trace", "place"], 2, [.expr (.call .clean 1 [(.var 0)]),
    .expr (.call .clean 69 [(.var 1)]),
    .asg (.var 2) (.makeF 1 70 [(.bi (.list false) [(.var 0)]), (.var 1)]),
    .ret (some f_come_to_C0)]⟩
def f_middles : Fn := ⟨["words", "begins"], 2, [.expr (.call .clean 1 [(.var 0)]),
    .expr (.call .clean 69 [(.var 1)]),
    .ret (some (.setSort (.attr 1 (.makeF 1 70 [(.bi (.list false) [(.var 0)]), (.var 1)]) "apart")))]⟩
def f__law_start_B0 : List Sm := [.asg (.var 1) (.bin .mod false (.bin .add false (.bin .add false (.bin .mul false (.var 1) (.con (.int 48271))) (.var 2)) (.con (.int 7))) (.con (.int 2147483647)))]
def f__law_start_L0 : Sm := .for (.var 2) (.seq (.var 0)) f__law_start_B0
def f__law_start : Fn := ⟨["_law_script", "_law_mixed", "_law_cell"], 1, [.asg (.var 1) (.con (.int 1)),
    f__law_start_L0,
    .ret (some (.list true [(.var 0), (.con (.int 0)), (.var 1), (.con (.int 0))]))]⟩
def f__law_drawn : Fn := ⟨["_law_state", "_law_many", "_law_found", "_law_cell"], 2, [.ite (.cmp .gt (.idx (.var 0) (.con (.int 3))) (.con (.int 0))) [.asg (.var 2) (.bin .mod false (.idx (.var 0) (.con (.int 3))) (.var 1)),
    .sub (.var 0) (.con (.int 3)) (.bin .fdiv false (.idx (.var 0) (.con (.int 3))) (.var 1)),
    .ret (some (.var 2))] [],
    .sub (.var 0) (.con (.int 1)) (.bin .add false (.idx (.var 0) (.con (.int 1))) (.con (.int 1))),
    .ite (.cmp .le (.idx (.var 0) (.con (.int 1))) (.bi .len [(.idx (.var 0) (.con (.int 0)))])) [.asg (.var 3) (.idx (.idx (.var 0) (.con (.int 0))) (.bin .sub false (.idx (.var 0) (.con (.int 1))) (.con (.int 1)))),
    .sub (.var 0) (.con (.int 3)) (.ife (.cmp .ge (.var 3) (.bin .pow false (.con (.int 10)) (.con (.int 18)))) (.bin .fdiv false (.var 3) (.var 1)) (.con (.int 0))),
    .ret (some (.bin .mod false (.var 3) (.var 1)))] [],
    .sub (.var 0) (.con (.int 2)) (.bin .mod false (.bin .add false (.bin .mul false (.idx (.var 0) (.con (.int 2))) (.con (.int 48271))) (.con (.int 11))) (.con (.int 2147483647))),
    .ret (some (.bin .mod false (.bin .fdiv false (.idx (.var 0) (.con (.int 2))) (.con (.int 7))) (.var 1)))]⟩
def f__law_all_codes : Fn := ⟨["_law_some"], 0, [.asg (.var 0) (.list false [(.tuple [(.con (.str "stop")), (.con (.int 0)), (.con (.int 0)), (.con (.int 0))]), (.tuple [(.con (.str "back")), (.con (.int 1)), (.con (.int 0)), (.con (.int 0))]), (.tuple [(.con (.str "say")), (.con (.int 4)), (.con (.int 1)), (.con (.int 0))]), (.tuple [(.con (.str "take!")), (.con (.int 16)), (.con (.int 1)), (.con (.int 1))]), (.tuple [(.con (.str "move")), (.con (.int 32)), (.con (.int 2)), (.con (.int 0))])]),
    .asg (.var 0) (.bin .add false (.var 0) (.list false [(.tuple [(.con (.str "add")), (.con (.int 48)), (.con (.int 2)), (.con (.int 0))]), (.tuple [(.con (.str "less")), (.con (.int 64)), (.con (.int 2)), (.con (.int 0))]), (.tuple [(.con (.str "load")), (.con (.int 80)), (.con (.int 1)), (.con (.int 1))]), (.tuple [(.con (.str "store")), (.con (.int 84)), (.con (.int 1)), (.con (.int 1))]), (.tuple [(.con (.str "jump")), (.con (.int 96)), (.con (.int 0)), (.con (.int 1))])])),
    .asg (.var 0) (.bin .add false (.var 0) (.list false [(.tuple [(.con (.str "call")), (.con (.int 97)), (.con (.int 0)), (.con (.int 1))]), (.tuple [(.con (.str "skip")), (.con (.int 99)), (.con (.int 0)), (.con (.int 1))]), (.tuple [(.con (.str "zero")), (.con (.int 100)), (.con (.int 1)), (.con (.int 1))]), (.tuple [(.con (.str "same")), (.con (.int 112)), (.con (.int 2)), (.con (.int 1))])])),
    .ret (some (.bin .add false (.var 0) (.list false [(.tuple [(.con (.str "copy")), (.con (.int 128)), (.con (.int 0)), (.con (.int 2))])])))]⟩
def f__law_forms_C0 : Ex := .comp false (.var 0) (.seq (.call .clean 86 [])) none (.tuple [(.idx (.var 0) (.con (.int 0))), (.slc false (.var 0) (some (.con (.int 1))) none)])
def f__law_forms : Fn := ⟨["_law_row"], 0, [.ret (some (.bi (.dictP false) [f__law_forms_C0]))]⟩
def f__law_read_B0 : List Sm := [.ite (.cmp .eq (.var 2) (.bin .add false (.var 4) (.idx (.list false [(.con (.int 0)), (.var 7), (.bin .add false (.bin .mul false (.con (.int 4)) (.var 7)) (.var 8))]) (.var 5)))) [.ite (.cmp .ge (.bin .add false (.var 1) (.var 6)) (.bi .len [(.var 0)])) [.ret (some (.con .non))] [],
    .ret (some (.tuple [(.var 3), (.idx (.list false [(.list false []), (.list false [(.var 7)]), (.list false [(.var 7), (.var 8)])]) (.var 5)), (.slc false (.var 0) (some (.bin .add false (.var 1) (.con (.int 1)))) (some (.bin .add false (.bin .add false (.var 1) (.con (.int 1))) (.var 6)))), (.bin .add false (.con (.int 1)) (.var 6))]))] []]
def f__law_read_L0 : Sm := .for (.var 8) (.rng [(.ife (.cmp .gt (.var 5) (.con (.int 1))) (.con (.int 4)) (.con (.int 1)))]) f__law_read_B0
def f__law_read_B1 : List Sm := [f__law_read_L0]
def f__law_read_L1 : Sm := .for (.var 7) (.rng [(.ife (.cmp .gt (.var 5) (.con (.int 0))) (.con (.int 4)) (.con (.int 1)))]) f__law_read_B1
def f__law_read_B2 : List Sm := [f__law_read_L1]
def f__law_read_L2 : Sm := .for (.tup [(.var 3), (.var 4), (.var 5), (.var 6)]) (.seq (.call .clean 86 [])) f__law_read_B2
def f__law_read : Fn := ⟨["_law_words", "_law_place", "_law_first", "_law_op", "_law_base", "_law_many", "_law_more", "_law_one", "_law_two"], 2, [.ite (.not (.chain .le .lt (.con (.int 0)) (.var 1) (.bi .len [(.var 0)]))) [.ret (some (.con .non))] [],
    .asg (.var 2) (.idx (.var 0) (.var 1)),
    .ite (.chain .le .lt (.con (.int 144)) (.var 2) (.con (.int 176))) [.ret (some (.tuple [(.con (.str "take")), (.list false [(.bin .fdiv false (.bin .sub false (.var 2) (.con (.int 144))) (.con (.int 8)))]), (.list false [(.bin .mod false (.bin .sub false (.var 2) (.con (.int 144))) (.con (.int 8)))]), (.con (.int 1))]))] [],
    f__law_read_L2,
    .ret (some (.con .non))]⟩
def f__law_any_words_B0 : List Sm := [.asg (.var 11) (.list false [(.call .plain 84 [(.var 0), (.bin .add false (.var 2) (.con (.int 2)))]), (.bin .sub false (.bin .add false (.bi .len [(.var 3)]) (.call .plain 84 [(.var 0), (.con (.int 5))])) (.con (.int 2))), (.call .plain 84 [(.var 0), (.con (.int 256))])]),
    .expr (.me .append (.var 3) [(.bin .mod false (.ife (.cmp .ne (.var 6) (.con (.str "skip"))) (.idx (.var 11) (.call .plain 84 [(.var 0), (.con (.int 3))])) (.bin .sub false (.call .plain 84 [(.var 0), (.con (.int 12))]) (.con (.int 6)))) (.con (.int 256)))])]
def f__law_any_words_L0 : Sm := .for (.var 10) (.rng [(.var 9)]) f__law_any_words_B0
def f__law_any_words_B1 : List Sm := [.asg (.var 5) (.call .plain 84 [(.var 0), (.con (.int 5))]),
    .ite (.cmp .eq (.var 5) (.con (.int 0))) [.expr (.me .append (.var 3) [(.call .plain 84 [(.var 0), (.con (.int 256))])])] [.ite (.cmp .eq (.var 5) (.con (.int 1))) [.expr (.me .append (.var 3) [(.bin .add false (.con (.int 144)) (.call .plain 84 [(.var 0), (.con (.int 32))]))])] [.asg (.tup [(.var 6), (.var 7), (.var 8), (.var 9)]) (.idx (.var 4) (.call .plain 84 [(.var 0), (.con (.int 15))])),
    .expr (.me .append (.var 3) [(.bin .add false (.var 7) (.call .plain 84 [(.var 0), (.idx (.list false [(.con (.int 1)), (.con (.int 4)), (.con (.int 16))]) (.var 8))]))]),
    f__law_any_words_L0]]]
def f__law_any_words_L1 : Sm := .whl (.cmp .lt (.bi .len [(.var 3)]) (.var 2)) f__law_any_words_B1
def f__law_any_words : Fn := ⟨["_law_state", "_law_some", "_law_many", "_law_found", "_law_codes", "_law_way", "_law_op", "_law_base", "_law_boxes", "_law_more", "_law_k", "_law_near"], 1, [.asg (.var 1) (.list false [(.call .plain 84 [(.var 0), (.con (.int 12))]), (.call .plain 84 [(.var 0), (.con (.int 60))]), (.bin .add false (.con (.int 200)) (.call .plain 84 [(.var 0), (.con (.int 57))]))]),
    .asg (.var 2) (.idx (.var 1) (.idx (.list false [(.con (.int 0)), (.con (.int 1)), (.con (.int 1)), (.con (.int 1)), (.con (.int 2))]) (.call .plain 84 [(.var 0), (.con (.int 5))]))),
    .asg (.tup [(.var 3), (.var 4)]) (.tuple [(.list true []), (.call .clean 86 [])]),
    f__law_any_words_L1,
    .ret (some (.slc false (.var 3) none (some (.var 2))))]⟩
def f__law_begins_C0 : Ex := .comp false (.var 3) (.rng [(.var 2)]) none (.call .plain 84 [(.var 0), (.bi .min2 [(.con (.int 256)), (.bin .add false (.bi .len [(.var 1)]) (.con (.int 2)))])])
def f__law_begins : Fn := ⟨["_law_state", "_law_words", "_law_many", "_law_k"], 2, [.asg (.var 2) (.bin .add false (.con (.int 1)) (.call .plain 84 [(.var 0), (.idx (.list false [(.con (.int 3)), (.con (.int 16))]) (.call .plain 84 [(.var 0), (.con (.int 2))]))])),
    .ret (some f__law_begins_C0)]⟩
end Rw.Pr
end
section
set_option Elab.async false
set_option linter.all false
set_option maxRecDepth 100000
set_option maxHeartbeats 0
namespace Rw.K14
open PySem PySem.Spec PyProof.Rows L2 Rw.Pr
abbrev R : PySem.W.OpenRow := PySem.W.OpenLaw.row PySem.Challenge.rw_rowscribe_k14_whole_what_runs_was_come_t
def top (i : Nat) : Stmt := R.prog.main.body.getD i (.Pass ⟨0, 0, 0, 0⟩)
def clsB : Stmt → List Stmt
  | .ClassDef (body := b) .. => b
  | _ => []
def meth (i j : Nat) : Stmt := (clsB (top i)).getD j (.Pass ⟨0, 0, 0, 0⟩)
def srcS (x q : Str) (s : Stmt) : Src := ⟨x, q, defArgs s, defBody s, defScope s⟩
def f__law_clean_B0 : List Sm := [.asg (.tup [(.var 8), (.var 9)]) (.tuple [(.call .plain 84 [(.var 0), (.con (.int 6))]), (.idx (.list false [(.con (.int 16)), (.con (.int 36)), (.con (.int 50)), (.con (.int 96)), (.con (.int 100)), (.con (.int 116))]) (.call .plain 84 [(.var 0), (.con (.int 6))]))]),
    .expr (.me .append (.var 1) [(.ife (.cmp .isIn (.var 9) (.tuple [(.con (.int 36)), (.con (.int 50))])) (.list false [(.var 9)]) (.list false [(.var 9), (.ife (.cmp .gt (.var 9) (.con (.int 90))) (.con .non) (.var 8))]))]),
    .expr (.me .append (.var 3) [(.var 2)]),
    .asg (.var 2) (.bin .add false (.var 2) (.bi .len [(.idx (.var 1) (.neg (.con (.int 1))))]))]
def f__law_clean_L0 : Sm := .for (.var 5) (.rng [(.var 4)]) f__law_clean_B0
def f__law_clean_C0 : Ex := .comp false (.var 10) (.seq (.var 7)) none (.ife (.isN false (.var 10)) (.var 10) (.idx (.var 3) (.call .plain 84 [(.var 0), (.var 4)])))
def f__law_clean_B1 : List Sm := [.asg (.var 6) (.bin .add false (.var 6) f__law_clean_C0)]
def f__law_clean_L1 : Sm := .for (.var 7) (.seq (.var 1)) f__law_clean_B1
def f__law_clean : Fn := ⟨["_law_state", "_law_rows", "_law_place", "_law_starts", "_law_many", "_law_k", "_law_found", "_law_row", "_law_way", "_law_base", "_law_word"], 1, [.asg (.tup [(.var 1), (.var 2), (.var 3)]) (.tuple [(.list true []), (.con (.int 0)), (.list true [])]),
    .asg (.var 4) (.bin .add false (.con (.int 1)) (.call .plain 84 [(.var 0), (.idx (.list false [(.con (.int 8)), (.con (.int 100))]) (.call .plain 84 [(.var 0), (.con (.int 2))]))])),
    f__law_clean_L0,
    .asg (.var 6) (.list false []),
    f__law_clean_L1,
    .ret (some (.tuple [(.bin .add false (.var 6) (.list false [(.con (.int 0))])), (.var 3)]))]⟩
def f_law_C0 : Ex := .comp false (.var 12) (.rng [(.bin .add false (.con (.int 1)) (.call .plain 84 [(.var 1), (.con (.int 4))]))]) none (.idx (.var 4) (.call .plain 84 [(.var 1), (.bi .len [(.var 4)])]))
def f_law_C1 : Ex := .comp false (.var 13) (.seq (.var 10)) (some (.cmp .notIn (.var 13) (.var 6))) (.var 13)
def f_law_C2 : Ex := .comp false (.var 14) (.seq (.var 7)) none (.idx (.var 14) (.con (.int 1)))
def f_law_B0 : List Sm := [.asg (.var 10) (.idx (.call .clean 13 [(.var 3), (.var 8), (.con (.int 300))]) (.con (.int 2))),
    .asg (.var 11) f_law_C1,
    .ite (.or [(.and [(.cmp .ne (.var 11) (.list false [])), (.cmp .eq (.var 7) (.list false []))]), (.and [(.cmp .ne (.var 11) (.list false [])), (.cmp .notIn (.idx (.var 11) (.con (.int 0))) f_law_C2)])]) [.ret (some (.con (.bl false)))] []]
def f_law_L0 : Sm := .for (.var 8) (.seq (.var 5)) f_law_B0
def f_law_C3 : Ex := .compK false (.var 13) 9 (some (.cmp .notIn (.var 13) (.var 6))) (.var 13)
def f_law_B1 : List Sm := [.asg (.tup [(.var 3), (.var 4)]) (.call .focus 93 [(.var 1)]),
    .asg (.var 5) f_law_C0,
    .ite (.cmp .eq (.call .plain 84 [(.var 1), (.con (.int 3))]) (.con (.int 0))) [.asg (.var 3) (.call .focus 89 [(.var 1)]),
    .asg (.var 5) (.call .focus 92 [(.var 1), (.var 3)])] [],
    .asg (.tup [(.var 6), (.var 7)]) (.tuple [(.bi (.dictP false) [(.call .clean 80 [(.var 3), (.var 5)])]), (.call .clean 81 [(.var 3), (.var 5)])]),
    f_law_L0,
    .asg (.var 9) (.bi (.dictP false) [(.call .clean 80 [(.var 3), (.slc false (.var 5) none (some (.con (.int 1))))])]),
    .ite (.and [(.cmp .eq (.var 7) (.list false [])), (.cmp .eq (.call .clean 81 [(.var 3), (.slc false (.var 5) none (some (.con (.int 1))))]) (.list false [])), (.cmp .ne f_law_C3 (.list false []))]) [.ret (some (.con (.bl false)))] []]
def f_law_L1 : Sm := .for (.var 2) (.rng [(.con (.int 4))]) f_law_B1
def f_law : Fn := ⟨["_law_script", "_law_state", "_law_turn", "_law_words", "_law_starts", "_law_begins_here", "_law_ops", "_law_apart", "_law_begin", "_law_few", "_law_past", "_law_lost", "_law_k", "_law_place", "_law_pair"], 1, [.asg (.var 1) (.call .plain 83 [(.var 0)]),
    f_law_L1,
    .ret (some (.con (.bl true)))]⟩
def pg : Pg := {
  consts := [(("SIZE" : Str), (.int 256)), (("SHORT" : Str), (.int 8)), (("TAKE" : Str), (.int 144)), (("COUNTS" : Str), (.tup [(.int 1), (.int 4), (.int 16)])), (("MOST_BEGINS" : Str), (.int 16)), (("BEGIN" : Str), (.int (-1))), (("MOST_STEPS" : Str), (.int 1000)), (("DEEPEST" : Str), (.int 16))]
  tabs := [("OPS", Pr.t_OPS)]
  gname := [(0, ("is_number" : Str)), (1, ("need_words" : Str)), (3, ("kind_of" : Str)), (4, ("row_at" : Str)), (5, ("signed" : Str)), (6, ("goals_of" : Str)), (13, ("run" : Str)), (69, ("need_begins" : Str)), (80, ("come_to" : Str)), (81, ("middles" : Str)), (82, ("law" : Str)), (83, ("_law_start" : Str)), (84, ("_law_drawn" : Str)), (86, ("_law_all_codes" : Str)), (87, ("_law_forms" : Str)), (88, ("_law_read" : Str)), (89, ("_law_any_words" : Str)), (92, ("_law_begins" : Str)), (93, ("_law_clean" : Str))]
  meths := [(0, ("step" : Str), 8), (0, ("do" : Str), 9), (0, ("go_down" : Str), 10), (0, ("come_back" : Str), 11), (0, ("reckon" : Str), 12), (1, ("come" : Str), 71), (1, ("is_over_one" : Str), 72)]
  makes := [(1, "Trace", 70), (0, "Machine", 7)]
  flds := [(1, ("words" : Str)), (1, ("rows" : Str)), (1, ("inner" : Str)), (1, ("apart" : Str)), (0, ("words" : Str)), (0, ("cells" : Str)), (0, ("boxes" : Str)), (0, ("place" : Str)), (0, ("calls" : Str)), (0, ("says" : Str)), (0, ("why" : Str)), (0, ("past" : Str))] }
def cn : List (Nat × Str) := [(1, "Trace"), (0, "Machine")]
def pes : List PE := [⟨0, Pr.f_is_number, srcS "is_number" "is_number" (top 11), ("is_number", none)⟩,
  ⟨1, Pr.f_need_words, srcS "need_words" "need_words" (top 12), ("need_words", none)⟩,
  ⟨3, Pr.f_kind_of, srcS "kind_of" "kind_of" (top 13), ("kind_of", none)⟩,
  ⟨4, Pr.f_row_at, srcS "row_at" "row_at" (top 14), ("row_at", none)⟩,
  ⟨5, Pr.f_signed, srcS "signed" "signed" (top 15), ("signed", none)⟩,
  ⟨6, Pr.f_goals_of, srcS "goals_of" "goals_of" (top 16), ("goals_of", none)⟩,
  ⟨7, Pr.f_Machine___init__, srcS "__init__" "Machine.__init__" (meth 27 0), ("Machine", some "__init__")⟩,
  ⟨8, Pr.f_Machine_step, srcS "step" "Machine.step" (meth 27 1), ("Machine", some "step")⟩,
  ⟨9, Pr.f_Machine_do, srcS "do" "Machine.do" (meth 27 2), ("Machine", some "do")⟩,
  ⟨10, Pr.f_Machine_go_down, srcS "go_down" "Machine.go_down" (meth 27 3), ("Machine", some "go_down")⟩,
  ⟨11, Pr.f_Machine_come_back, srcS "come_back" "Machine.come_back" (meth 27 4), ("Machine", some "come_back")⟩,
  ⟨12, Pr.f_Machine_reckon, srcS "reckon" "Machine.reckon" (meth 27 5), ("Machine", some "reckon")⟩,
  ⟨13, Pr.f_run, srcS "run" "run" (top 28), ("run", none)⟩,
  ⟨69, Pr.f_need_begins, srcS "need_begins" "need_begins" (top 20), ("need_begins", none)⟩,
  ⟨70, Pr.f_Trace___init__, srcS "__init__" "Trace.__init__" (meth 21 0), ("Trace", some "__init__")⟩,
  ⟨71, Pr.f_Trace_come, srcS "come" "Trace.come" (meth 21 1), ("Trace", some "come")⟩,
  ⟨72, Pr.f_Trace_is_over_one, srcS "is_over_one" "Trace.is_over_one" (meth 21 2), ("Trace", some "is_over_one")⟩,
  ⟨80, Pr.f_come_to, srcS "come_to" "come_to" (top 22), ("come_to", none)⟩,
  ⟨81, Pr.f_middles, srcS "middles" "middles" (top 23), ("middles", none)⟩,
  ⟨82, f_law, srcS "law" "law" (top 39), ("law", none)⟩,
  ⟨83, Pr.f__law_start, srcS "_law_start" "_law_start" (top 30), ("_law_start", none)⟩,
  ⟨84, Pr.f__law_drawn, srcS "_law_drawn" "_law_drawn" (top 31), ("_law_drawn", none)⟩,
  ⟨86, Pr.f__law_all_codes, srcS "_law_all_codes" "_law_all_codes" (top 32), ("_law_all_codes", none)⟩,
  ⟨87, Pr.f__law_forms, srcS "_law_forms" "_law_forms" (top 33), ("_law_forms", none)⟩,
  ⟨88, Pr.f__law_read, srcS "_law_read" "_law_read" (top 34), ("_law_read", none)⟩,
  ⟨89, Pr.f__law_any_words, srcS "_law_any_words" "_law_any_words" (top 35), ("_law_any_words", none)⟩,
  ⟨92, Pr.f__law_begins, srcS "_law_begins" "_law_begins" (top 37), ("_law_begins", none)⟩,
  ⟨93, f__law_clean, srcS "_law_clean" "_law_clean" (top 38), ("_law_clean", none)⟩]
def fns : Nat → Option Fn := fnsOf pes
theorem binds : ∀ e ∈ pes, BindsEq e.src (e.fn.names.take e.fn.np) := by
  unfold pes
  refine List.forall_mem_cons.mpr <| And.intro (fun _ _ _ _ _ _ us hl => match us, hl with | [_, _, _], _ => rfl) <| List.forall_mem_cons.mpr <| And.intro (fun _ _ _ _ _ _ us hl => match us, hl with | [_], _ => rfl) <| List.forall_mem_cons.mpr <| And.intro (fun _ _ _ _ _ _ us hl => match us, hl with | [_], _ => rfl) <| List.forall_mem_cons.mpr <| And.intro (fun _ _ _ _ _ _ us hl => match us, hl with | [_, _], _ => rfl) <| List.forall_mem_cons.mpr <| And.intro (fun _ _ _ _ _ _ us hl => match us, hl with | [_], _ => rfl) <| List.forall_mem_cons.mpr <| And.intro (fun _ _ _ _ _ _ us hl => match us, hl with | [_, _], _ => rfl) <| List.forall_mem_cons.mpr <| And.intro (fun _ _ _ _ _ _ us hl => match us, hl with | [_, _, _], _ => rfl) <| List.forall_mem_cons.mpr <| And.intro (fun _ _ _ _ _ _ us hl => match us, hl with | [_], _ => rfl) <| List.forall_mem_cons.mpr <| And.intro (fun _ _ _ _ _ _ us hl => match us, hl with | [_, _], _ => rfl) <| List.forall_mem_cons.mpr <| And.intro (fun _ _ _ _ _ _ us hl => match us, hl with | [_, _, _], _ => rfl) <| List.forall_mem_cons.mpr <| And.intro (fun _ _ _ _ _ _ us hl => match us, hl with | [_], _ => rfl) <| List.forall_mem_cons.mpr <| And.intro (fun _ _ _ _ _ _ us hl => match us, hl with | [_, _, _, _], _ => rfl) <| List.forall_mem_cons.mpr <| And.intro (fun _ _ _ _ _ _ us hl => match us, hl with | [_, _, _], _ => rfl) <| List.forall_mem_cons.mpr <| And.intro (fun _ _ _ _ _ _ us hl => match us, hl with | [_], _ => rfl) <| List.forall_mem_cons.mpr <| And.intro (fun _ _ _ _ _ _ us hl => match us, hl with | [_, _, _], _ => rfl) <| List.forall_mem_cons.mpr <| And.intro (fun _ _ _ _ _ _ us hl => match us, hl with | [_, _, _], _ => rfl) <| List.forall_mem_cons.mpr <| And.intro (fun _ _ _ _ _ _ us hl => match us, hl with | [_, _, _], _ => rfl) <| List.forall_mem_cons.mpr <| And.intro (fun _ _ _ _ _ _ us hl => match us, hl with | [_, _], _ => rfl) <| List.forall_mem_cons.mpr <| And.intro (fun _ _ _ _ _ _ us hl => match us, hl with | [_, _], _ => rfl) <| List.forall_mem_cons.mpr <| And.intro (fun _ _ _ _ _ _ us hl => match us, hl with | [_], _ => rfl) <| List.forall_mem_cons.mpr <| And.intro (fun _ _ _ _ _ _ us hl => match us, hl with | [_], _ => rfl) <| List.forall_mem_cons.mpr <| And.intro (fun _ _ _ _ _ _ us hl => match us, hl with | [_, _], _ => rfl) <| List.forall_mem_cons.mpr <| And.intro (fun _ _ _ _ _ _ us hl => match us, hl with | [], _ => rfl) <| List.forall_mem_cons.mpr <| And.intro (fun _ _ _ _ _ _ us hl => match us, hl with | [], _ => rfl) <| List.forall_mem_cons.mpr <| And.intro (fun _ _ _ _ _ _ us hl => match us, hl with | [_, _], _ => rfl) <| List.forall_mem_cons.mpr <| And.intro (fun _ _ _ _ _ _ us hl => match us, hl with | [_], _ => rfl) <| List.forall_mem_cons.mpr <| And.intro (fun _ _ _ _ _ _ us hl => match us, hl with | [_, _], _ => rfl) <| List.forall_mem_cons.mpr <| And.intro (fun _ _ _ _ _ _ us hl => match us, hl with | [_], _ => rfl) <| (fun _ h => by cases h)
theorem sane : saneB pg pes cn = true := by kernel_rfl
theorem checked : (pes.all fun e => fnC pg fns e.fn e.src) = true := by kernel_rfl
def loose : List PySem.Str := (["ScribeError", "BadWords", "BadBegins", "BadCount", "SIZE", "SHORT", "OPS", "TAKE", "COUNTS", "is_number", "need_words", "kind_of", "row_at", "signed", "goals_of", "MOST_BEGINS", "BEGIN", "need_begins", "Trace", "come_to", "middles", "MOST_STEPS", "DEEPEST", "Machine", "run", "_law_start", "_law_drawn", "_law_all_codes", "_law_forms", "_law_read"] : List PySem.Str) ++ (["_law_any_words", "_law_trace", "_law_begins", "_law_clean"] : List PySem.Str)
def lawIx : Nat := 39
end Rw.K14
end
section
set_option Elab.async false
set_option linter.all false
set_option maxRecDepth 100000
set_option maxHeartbeats 0
namespace Rw.K14
open PySem PySem.Spec PyProof.Rows L2
abbrev hk : PySem.W.Hook := He.hookX 4 (faL pg cn) (pes.map PE.toDef) (tsL pg) [] (exB pg)
def ob (s : PySem.W.SharedT) : He.AlX := He.obsX 4 (faL pg cn) (pes.map PE.toDef) (tsL pg) [] (exB pg) (HandSHeadRun.getT s)
theorem ob_eq (s : PySem.W.SharedT) : ob s = hk.obs s.abs := He.obsX_eq (HandSHeadRun.getT_eq s)
noncomputable abbrev endW (w : World) (os : OsState) : Option PySem.W.SharedT := HandSHeadRun.endF (HandSHeadRun.stepQ (HandSHeadRun.denQ HandSHeadRun.tabQ) R.prog w) 30000 R.prog w os
theorem three {α β γ δ : Type} {o : Option α} {a : α → β} {b : α → γ} {c : α → δ} {x : β} {y : γ} {z : δ} (h1 : o.map a = some x) (h2 : o.map b = some y) (h3 : o.map c = some z) : o.map (fun s => (a s, b s, c s)) = some (x, y, z) := by
  cases o with
  | none => cases h1
  | some s => cases h1; cases h2; cases h3; rfl
theorem runF1 (w : World) (os : OsState) : (endW (w.withFollow "special-get-raises" false) os).map (fun s => HandSHeadRun.looksF R.prog (PySem.W.boot_heap (w.withFollow "special-get-raises" false).params) s.abs) = some true := by kernel_rfl
theorem runF2 (w : World) (os : OsState) : (endW (w.withFollow "special-get-raises" false) os).map (fun s => HandSHeadRun.seenQ (PySem.W.view R.prog [lawIx]) loose (PySem.importedModules R.prog.main.body) (fun s => PySem.W.xlAt (PySem.W.view R.prog [lawIx]) [] s && PySem.W.recOk R.toRowW.records s) s.abs) = some (PySem.W.openGood (PySem.W.view R.prog [lawIx]) loose) := by kernel_rfl
theorem runF3 (w : World) (os : OsState) : (endW (w.withFollow "special-get-raises" false) os).map (fun s => ob s) = some (hk.val (w.withFollow "special-get-raises" false)) := by kernel_rfl
theorem runF (w : World) : (fun w => HandSHeadRun.RunEq R (PySem.W.view R.prog [lawIx]) hk ob 30000 loose w) (w.withFollow "special-get-raises" false) := fun os => three (runF1 w os) (runF2 w os) (runF3 w os)
theorem runT1 (w : World) (os : OsState) : (endW (w.withFollow "special-get-raises" true) os).map (fun s => HandSHeadRun.looksF R.prog (PySem.W.boot_heap (w.withFollow "special-get-raises" true).params) s.abs) = some true := by kernel_rfl
theorem runT2 (w : World) (os : OsState) : (endW (w.withFollow "special-get-raises" true) os).map (fun s => HandSHeadRun.seenQ (PySem.W.view R.prog [lawIx]) loose (PySem.importedModules R.prog.main.body) (fun s => PySem.W.xlAt (PySem.W.view R.prog [lawIx]) [] s && PySem.W.recOk R.toRowW.records s) s.abs) = some (PySem.W.openGood (PySem.W.view R.prog [lawIx]) loose) := by kernel_rfl
theorem runT3 (w : World) (os : OsState) : (endW (w.withFollow "special-get-raises" true) os).map (fun s => ob s) = some (hk.val (w.withFollow "special-get-raises" true)) := by kernel_rfl
theorem runT (w : World) : (fun w => HandSHeadRun.RunEq R (PySem.W.view R.prog [lawIx]) hk ob 30000 loose w) (w.withFollow "special-get-raises" true) := fun os => three (runT1 w os) (runT2 w os) (runT3 w os)
theorem runH (w : World) : HandSHeadRun.RunEq R (PySem.W.view R.prog [lawIx]) hk ob 30000 loose w := PySem.W.byRow2 "special-get-raises" (P := fun w => HandSHeadRun.RunEq R (PySem.W.view R.prog [lawIx]) hk ob 30000 loose w) runF runT w
end Rw.K14
end
section
set_option Elab.async false
set_option linter.all false
set_option maxRecDepth 100000
set_option maxHeartbeats 0
namespace Rw.K14
open PySem PySem.Spec PyProof.Rows L2
theorem all_ok : ∀ f fn, fns f = some fn → fnC pg fns fn (srcOf pes f) = true := by
  intro f fn e
  obtain ⟨en, q, rfl⟩ := fns_get e
  have z := List.all_eq_true.mp checked en (getE_mem q)
  unfold srcOf
  rw [q]
  exact z
def lawId : Nat := 82
def lev : Nat := 60
def LawTrue : Prop := ∀ ns : List Int, ns.length ≤ 63 → ∃ M, run fns lev lawId [.t (.scr ns)] [] = .ok (.t (.bl true)) M
theorem lawE : getE pes lawId = some ⟨82, f_law, srcS "law" "law" (top lawIx), ("law", none)⟩ := by rfl
theorem facts {P : Program} {w : World} {K : PySem.W.Frag} {h : Heap} {mg : Str → Option Value} {f : Addr} (lt : LawTrue) (X : K.In h) (G : h.Ns mainGlobals mg) (hfa : mg ("law" : Str) = some (.ref f)) (c : He.SaysX (faL pg cn) (pes.map PE.toDef) (tsL pg) [] (exB pg) w h K) :
    ∃ (fd : FuncData) (sp : Sp), (∀ (s : Shared) (v : Value), BindsTo s fd ⟨[v], []⟩ [("_law_script", v)]) ∧
      (∀ (H : Hp) (a : Addr) (ns : List Int), ns.length ≤ 63 → Only H → SqL K H a (ns.map V.int) → sp [.ref a] H (fun v _ => v = .bl true) fun _ _ _ => False) ∧
      ∀ base : Heap, K.In base → base.Ns mainGlobals mg → FnOk P w K mg base (L2.CX P w) (2 * lev) f fd ["_law_script"] sp := by
  obtain ⟨fdt, fx, hF⟩ := facts_of X G c sane binds
  have e0 : fnsOf pes lawId = some f_law := by unfold fnsOf; rw [lawE]; rfl
  have F := hF lawId f_law e0
  have eL : locOf pes lawId = (("law" : Str), none) := by unfold locOf; rw [lawE]
  have ea : faOf K pes lawId = He.ga K "law" := by unfold faOf; rw [eL]; rfl
  have em : mg "law" = some (.ref (He.ga K "law")) := He.glo_ok X G (c.t.d.facts (f := .glo "law") (by unfold faL; exact List.mem_append_right _ (List.mem_append_left _ (List.mem_map.mpr ⟨(82, "law"), by decide +kernel, rfl⟩))))
  have ef : f = faOf K pes lawId := by rw [ea]; exact Value.ref.inj (Option.some.inj (hfa.symm.trans em))
  subst ef
  have eS : srcOf pes lawId = srcS "law" "law" (top lawIx) := by unfold srcOf; rw [lawE]
  have b := FunD.bindsA (ps := ["_law_script"]) F (by rw [eS]; exact fun _ _ _ _ _ _ us hl => match us, hl with | [_], _ => rfl)
  refine ⟨fdt lawId, spF K (caOf K cn) (run fns lev) lawId 1, fun s v => b s [v] rfl, fun H a ns hl _ hS => ?_, fun base _ _ => ?_⟩
  · obtain ⟨M, e⟩ := lt ns hl
    exact law_of (P := pg) hS e
  · exact all_fns fx (srcOf pes) hF all_ok lev lawId f_law e0
end Rw.K14
open PySem PySem.W PySem.Calls PyProof.Rows
theorem k14_holds (lt : Rw.K14.LawTrue) : PySem.Challenge.rw_rowscribe_k14_whole_what_runs_was_come_t.Holds := by
  w_on; o_law
  refine HandSHeadRun.head_any (r := Rw.K14.R) (q := view Rw.K14.R.prog [Rw.K14.lawIx]) (H := Rw.K14.hk) (ob := Rw.K14.ob) (M := 30000) (loose := Rw.K14.loose) (d := HandSHeadRun.topDef Rw.K14.R.prog Rw.K14.lawIx) (kwd := []) Rw.K14.ob_eq
    (by kernel_rfl) (fun s => by kernel_rfl) Rw.K14.runH (by kernel_rfl) (by kernel_rfl) (by kernel_rfl) (by rfl) (by first | assumption | decide +kernel) (by decide +kernel) ⟨rfl, rfl, rfl, rfl, rfl, by decide +kernel⟩ ?hw ?hc
  case hw => w_witness2
  case hc =>
    refine Rw.walk_w (l := PySem.Challenge.rw_rowscribe_k14_whole_what_runs_was_come_t) (n := 63) (k := 2 * Rw.K14.lev) (x := "_law_script") (CX := fun w => L2.CX Rw.K14.R.prog w) rfl (by decide) (by kernel_rfl) ⟨rfl, by decide, by decide⟩ ?F (fun _ _ _ _ _ z => Rw.no_cx z)
    intro w mg fa h Y G hmg0
    obtain ⟨K, KX, c⟩ := Y
    have hmg : mg ("law" : PySem.Str) = some (.ref fa) := by
      have e : (HandSHeadRun.topDef Rw.K14.R.prog Rw.K14.lawIx).name = ("law" : PySem.Str) := by kernel_rfl
      rw [← e]
      exact hmg0
    obtain ⟨fd, sp, hb, hs, hF⟩ := Rw.K14.facts (P := (PySem.Challenge.rw_rowscribe_k14_whole_what_runs_was_come_t).prog) (w := w) lt KX G hmg c
    exact ⟨K, fd, sp, KX, hb, hs, hF⟩
end
section
set_option Elab.async false
set_option linter.all false
set_option maxRecDepth 100000
namespace Rw
open PySem
theorem ofString_inj (s t : String) : (Str.ofString s = Str.ofString t) = (s = t) := by
  refine propext ⟨fun h => ?_, fun h => by rw [h]⟩
  rw [Str.ofString_eq_toList, Str.ofString_eq_toList] at h
  have h1 : s.toList.map Char.toNat = t.toList.map Char.toNat := by
    have := congrArg Str.cps h
    exact List.toArray_inj this
  have h2 : s.toList = t.toList := by
    refine List.map_inj_right (f := Char.toNat) (fun a b e => ?_) |>.mp h1
    exact Char.toNat_inj.mp e
  exact String.toList_inj.mp h2
theorem strOk_ofString (s : String) : PyData.strOk (Str.ofString s) = true := by
  unfold PyData.strOk
  rw [Str.ofString_eq_toList]
  rw [Array.all_eq_true_iff_forall_mem]
  intro x hx
  obtain ⟨c, _, e⟩ := List.mem_map.mp (by simpa using hx)
  subst e
  have h := c.valid
  simp only [UInt32.isValidChar, Nat.isValidChar] at h
  have : c.toNat = c.val.toNat := rfl
  simp only [decide_eq_true_eq]
  omega
theorem beq_ofString (s t : String) : (Str.ofString s == Str.ofString t) = decide (s = t) := by
  rw [show (Str.ofString s == Str.ofString t) = decide (Str.ofString s = Str.ofString t) from rfl]
  exact decide_eq_decide.mpr (by rw [ofString_inj])
theorem eq_int (M : Ar) (i j : Int) (k : Bool → Bool) : eqV2 M (.t (.int i)) (.t (.int j)) k = .ok (.t (.bl (k (decide (i = j))))) M := rfl
theorem eq_str (M : Ar) (s t : String) (k : Bool → Bool) : eqV2 M (.t (.str (Str.ofString s))) (.t (.str (Str.ofString t))) k = .ok (.t (.bl (k (decide (s = t))))) M := by
  have a : SeqAt.shaped (.str (Str.ofString s)) = true := by unfold SeqAt.shaped; rw [show PyData.canLay0 (.str (Str.ofString s)) = PyData.strOk (Str.ofString s) by simp [PyData.canLay0], strOk_ofString]; rfl
  have b : SeqAt.shaped (.str (Str.ofString t)) = true := by unfold SeqAt.shaped; rw [show PyData.canLay0 (.str (Str.ofString t)) = PyData.strOk (Str.ofString t) by simp [PyData.canLay0], strOk_ofString]; rfl
  show okIf (SeqAt.shaped (.str (Str.ofString s)) && SeqAt.shaped (.str (Str.ofString t))) _ = _
  rw [a, b]
  show Res.ok (D.t (T.bl (k (Str.ofString s == Str.ofString t)))) M = _
  rw [beq_ofString]
/-- ints as a closed list -/
def tl (l : List Int) : T := .lst (l.map T.int)
def il (l : List Int) : List D := l.map fun i => D.t (.int i)
theorem toPys_ints : ∀ l : List Int, toPys (l.map T.int) = l.map PyData.int
  | [] => rfl
  | a :: l => by show PyData.int a :: toPys (l.map T.int) = _; rw [toPys_ints l]; rfl
theorem shaped_ints (l : List Int) : SeqAt.shaped (.list (l.map PyData.int)) = true := by
  have a : ∀ l : List Int, PyData.canLayAll0 (l.map PyData.int) = true := fun l => by
    induction l with
    | nil => simp [PyData.canLayAll0]
    | cons x l ih => simp [PyData.canLayAll0, PyData.canLay0, ih]
  have b : ∀ l : List Int, PyData.depthAll (l.map PyData.int) = 0 := fun l => by
    induction l with
    | nil => simp [PyData.depthAll]
    | cons x l ih => simp [PyData.depthAll, PyData.depth, ih]
  unfold SeqAt.shaped
  simp [PyData.canLay0, PyData.depth, a, b]
theorem eqvAll_ints : ∀ l m : List Int, PyData.eqvAll (l.map PyData.int) (m.map PyData.int) = decide (l = m)
  | [], [] => by simp [PyData.eqvAll]
  | [], _ :: _ => by simp [PyData.eqvAll]
  | _ :: _, [] => by simp [PyData.eqvAll]
  | a :: l, b :: m => by
    simp only [List.map_cons, PyData.eqvAll, PyData.eqv, eqvAll_ints l m]
    by_cases h : a = b <;> simp [h]
theorem eq3_tl (M : Ar) (l m : List Int) (k : Bool → Bool) : eqV3 M (.t (tl l)) (.t (tl m)) k = .ok (.t (.bl (k (decide (l = m))))) M := by
  show okIf (SeqAt.shaped (.list (toPys (l.map T.int))) && SeqAt.shaped (.list (toPys (m.map T.int)))) (Res.ok (D.t (T.bl (k (PyData.eqv (.list (toPys (l.map T.int))) (.list (toPys (m.map T.int))))))) M) = _
  rw [toPys_ints, toPys_ints, shaped_ints, shaped_ints]
  show Res.ok (D.t (T.bl (k (PyData.eqv (.list _) (.list _))))) M = _
  simp only [PyData.eqv, eqvAll_ints]
theorem eq_tl (M : Ar) (l m : List Int) (k : Bool → Bool) : eqV2 M (.t (tl l)) (.t (tl m)) k = .ok (.t (.bl (k (decide (l = m))))) M := by
  show (match decide (((l.map T.int).map D.t).length = ((m.map T.int).map D.t).length) with
    | true => eqV3 M (.t (tl l)) (.t (tl m)) k
    | false => .ok (.t (.bl (k false))) M) = _
  rw [List.length_map, List.length_map, List.length_map, List.length_map]
  by_cases h : l.length = m.length
  · rw [decide_eq_true h, eq3_tl]
  · have h' : ¬ l = m := fun e => h (by rw [e])
    rw [decide_eq_false h, decide_eq_false h']
theorem allT_il : ∀ l : List Int, allT (il l) = some (l.map T.int)
  | [] => rfl
  | a :: l => by show (match allT (il l) with | some r => some (T.int a :: r) | none => none) = _; rw [allT_il l]; rfl
theorem frzL_il (l : List Int) : frzL (il l) = .t (tl l) := by unfold frzL; rw [allT_il]; rfl
theorem lsOf_tl (M : Ar) (l : List Int) : lsOf M (.t (tl l)) = some (il l) := by
  show some ((l.map T.int).map D.t) = some (il l)
  rw [List.map_map]; rfl
theorem il_len (l : List Int) : (il l).length = l.length := by simp [il]
theorem il_app (l m : List Int) : il l ++ il m = il (l ++ m) := by simp [il]
theorem il_get (l : List Int) (j : Nat) : (il l)[j]? = (l[j]?).map fun i => D.t (.int i) := by simp [il]
theorem il_set (l : List Int) (j : Nat) (i : Int) : (il l).set j (.t (.int i)) = il (l.set j i) := by simp [il, List.map_set]
theorem ixN_pos {n : Nat} {i : Int} (h0 : 0 ≤ i) (h1 : i < n) : L2.ixN n i = some i.toNat := by unfold L2.ixN; rw [if_pos h0, if_pos h1]
theorem atI_il {l : List Int} {i : Int} (h0 : 0 ≤ i) (h1 : i < l.length) : L2.atI (il l) i = some (.t (.int (l.getD i.toNat 0))) := by
  unfold L2.atI
  rw [il_len, ixN_pos h0 h1]
  show (il l)[i.toNat]? = _
  have : i.toNat < l.length := by omega
  rw [il_get, List.getElem?_eq_getElem this, List.getD_eq_getElem?_getD, List.getElem?_eq_getElem this]
  rfl
theorem forF_ok {b : D → En → Ar → Res Fl} (I : En → Ar → Prop) : ∀ (l : List D) (r : En) (M : Ar), (∀ d ∈ l, ∀ r M, I r M → ∃ r' M', b d r M = .ok (.nx r') M' ∧ I r' M') → I r M → ∃ r' M', forF b l r M = .ok (.nx r') M' ∧ I r' M'
  | [], r, M, _, h => ⟨r, M, rfl, h⟩
  | d :: l, r, M, hb, h => by
    obtain ⟨r1, M1, e1, h1⟩ := hb d List.mem_cons_self r M h
    obtain ⟨r2, M2, e2, h2⟩ := forF_ok I l r1 M1 (fun d hd => hb d (List.mem_cons_of_mem _ hd)) h1
    exact ⟨r2, M2, by unfold forF; rw [e1]; exact e2, h2⟩
/-- while: m falls -/
theorem whl_ok {c : En → Ar → Res Bool} {b : En → Ar → Res Fl} (I : Nat → En → Ar → Prop) (Q : En → Ar → Prop)
    (hs : ∀ m r M, I m r M → (∃ M1, c r M = .ok false M1 ∧ Q r M1) ∨ ∃ M1 r' M' m', c r M = .ok true M1 ∧ b r M1 = .ok (.nx r') M' ∧ m' < m ∧ I m' r' M') :
    ∀ (m n : Nat) (r : En) (M : Ar), m < n → I m r M → ∃ r' M', whl c b n r M = .ok (.nx r') M' ∧ Q r' M' := by
  intro m
  induction m using Nat.strongRecOn with
  | ind m ih =>
    intro n r M hn hI
    cases n with
    | zero => omega
    | succ n =>
      rcases hs m r M hI with ⟨M1, e, q⟩ | ⟨M1, r', M', m', e1, e2, hm, hI'⟩
      · exact ⟨r, M1, by unfold whl; rw [e]; rfl, q⟩
      · obtain ⟨r2, M2, e3, q⟩ := ih m' hm n r' M' (by omega) hI'
        exact ⟨r2, M2, by unfold whl; rw [e1]; show ((b r M1).bind _) = _; rw [e2]; exact e3, q⟩
end Rw
namespace Rw
section
variable (G : Cal)
theorem evS_ite (c : Ex) (a b : List Sm) (r : En) (M : Ar) : evS G (.ite c a b) r M = (evT G c r M).bind fun k M => match k with
    | true => evB G a r M
    | false => evB G b r M := by
  simp only [evS]
  try rfl
theorem evS_for {tg : Tg} {s : Sr} {b : List Sm} {r : En} {M M0 : Ar} {l : List D} {x : Res Fl} (h1 : evSr G s r M = .ok (.fix l) M0) (h2 : forF (forBody G tg b) l r M0 = x) : evS G (.for tg s b) r M = x := by
  rw [← h2]
  simp only [evS]
  rw [h1]
  rfl
theorem evS_whl (c : Ex) (b : List Sm) (r : En) (M : Ar) : evS G (.whl c b) r M = whl (evT G c) (evB G b) wfuel r M := by simp only [evS]
end
end Rw
namespace Rw
open PySem
theorem at0 {α : Type} (a : α) (l : List α) : L2.atI (a :: l) 0 = some a := by simp [L2.atI, L2.ixN]
theorem at1 {α : Type} (a b : α) (l : List α) : L2.atI (a :: b :: l) 1 = some b := by
  unfold L2.atI
  rw [ixN_pos (by decide) (by simp only [List.length_cons]; omega)]
  rfl
theorem at2 {α : Type} (a b c : α) (l : List α) : L2.atI (a :: b :: c :: l) 2 = some c := by
  unfold L2.atI
  rw [ixN_pos (by decide) (by simp only [List.length_cons]; omega)]
  rfl
theorem at3 {α : Type} (a b c d : α) (l : List α) : L2.atI (a :: b :: c :: d :: l) 3 = some d := by
  unfold L2.atI
  rw [ixN_pos (by decide) (by simp only [List.length_cons]; omega)]
  rfl
theorem tpOf_tl (l : List Int) : tpOf (.t (tl l)) = none := rfl
theorem scOf_tl (l : List Int) : scOf (.t (tl l)) = none := rfl
theorem snap_t (M : Ar) (n : Nat) (x : T) : snap M n (.t x) = some x := by cases n <;> rfl
/-- the answer is this tree, the arena empty -/
def okT (r : Res D) (t : T) : Bool := match r with
  | .ok (.t x) [] => beqT x t
  | _ => false
theorem okT_ok {r : Res D} {t : T} (h : okT r t = true) : r = .ok (.t t) [] := by
  unfold okT at h
  split at h
  · rw [beqT_ok _ _ h]
  · cases h
end Rw
namespace Rw
open PySem
theorem lsO_non (M : Ar) : lsOf M (.t .non) = none := rfl
theorem tpO_non : tpOf (.t .non) = none := rfl
theorem scO_non : scOf (.t .non) = none := rfl
theorem lsO_bl (M : Ar) (b : Bool) : lsOf M (.t (.bl b)) = none := rfl
theorem tpO_bl (b : Bool) : tpOf (.t (.bl b)) = none := rfl
theorem scO_bl (b : Bool) : scOf (.t (.bl b)) = none := rfl
theorem lsO_int (M : Ar) (i : Int) : lsOf M (.t (.int i)) = none := rfl
theorem tpO_int (i : Int) : tpOf (.t (.int i)) = none := rfl
theorem scO_int (i : Int) : scOf (.t (.int i)) = none := rfl
theorem lsO_str (M : Ar) (x : Str) : lsOf M (.t (.str x)) = none := rfl
theorem tpO_str (x : Str) : tpOf (.t (.str x)) = none := rfl
theorem scO_str (x : Str) : scOf (.t (.str x)) = none := rfl
theorem lsO_tup (M : Ar) (l : List T) : lsOf M (.t (.tup l)) = none := rfl
theorem tpO_tup (l : List T) : tpOf (.t (.tup l)) = some (l.map .t) := rfl
theorem scO_tup (l : List T) : scOf (.t (.tup l)) = none := rfl
theorem lsO_lst (M : Ar) (l : List T) : lsOf M (.t (.lst l)) = some (l.map .t) := rfl
theorem tpO_lst (l : List T) : tpOf (.t (.lst l)) = none := rfl
theorem scO_lst (l : List T) : scOf (.t (.lst l)) = none := rfl
theorem lsO_scr (M : Ar) (l : List Int) : lsOf M (.t (.scr l)) = none := rfl
theorem tpO_scr (l : List Int) : tpOf (.t (.scr l)) = none := rfl
theorem scO_scr (l : List Int) : scOf (.t (.scr l)) = some (l.map fun i => .t (.int i)) := rfl
theorem lsO_ref (M : Ar) (i : Nat) : lsOf M (.ref i) = (match M[i]? with
    | some (.lst l) => some l
    | _ => none) := rfl
theorem tpO_ref (i : Nat) : tpOf (.ref i) = none := rfl
theorem scO_ref (i : Nat) : scOf (.ref i) = none := rfl
theorem lsO_Dt (M : Ar) (l : List D) : lsOf M (.tup l) = none := rfl
theorem tpO_Dt (l : List D) : tpOf (.tup l) = some l := rfl
theorem scO_Dt (l : List D) : scOf (.tup l) = none := rfl
theorem lsO_Dl (M : Ar) (l : List D) : lsOf M (.lst l) = some l := rfl
theorem tpO_Dl (l : List D) : tpOf (.lst l) = none := rfl
theorem scO_Dl (l : List D) : scOf (.lst l) = none := rfl
end Rw
namespace Rw
theorem tl_fold (l : List Int) : T.lst (l.map T.int) = tl l := rfl
theorem tl0 : tl [] = .lst [] := rfl
theorem tl1 (a : Int) : tl [a] = .lst [.int a] := rfl
theorem tl2 (a b : Int) : tl [a, b] = .lst [.int a, .int b] := rfl
theorem il0 : il [] = [] := rfl
theorem il1 (a : Int) : il [a] = [.t (.int a)] := rfl
theorem il2 (a b : Int) : il [a, b] = [.t (.int a), .t (.int b)] := rfl
end Rw
end
section
set_option Elab.async false
set_option linter.all false
set_option maxRecDepth 100000
namespace Rw
open PySem
section
variable (G : Cal)
def kSeq (ss : List Sm) (x : Res Fl) : Res Fl := x.bind fun f M => match f with
  | .nx r' => evB G ss r' M
  | .rt d => .ok (.rt d) M
theorem kSeq_k0 (ss : List Sm) (r : En) (M : Ar) : kSeq G ss (.ok (.nx r) M) = evB G ss r M := rfl
theorem kSeq_k1 (ss : List Sm) (d : D) (M : Ar) : kSeq G ss (.ok (.rt d) M) = .ok (.rt d) M := rfl
theorem xB0 (r : En) (M : Ar) : evB G [] r M = .ok (.nx r) M := by first | (simp only [evS, evB, evE, evEs, evAnd, evOr, evO, evC, evSr, evT]; rfl) | simp only [evS, evB, evE, evEs, evAnd, evOr, evO, evC, evSr, evT]
theorem xB1 (s : Sm) (ss : List Sm) (r : En) (M : Ar) : evB G (s :: ss) r M = kSeq G ss (evS G s r M) := by first | (simp only [evS, evB, evE, evEs, evAnd, evOr, evO, evC, evSr, evT]; rfl) | simp only [evS, evB, evE, evEs, evAnd, evOr, evO, evC, evSr, evT]
def kAsg (tg : Tg) (r : En) (x : Res D) : Res Fl := x.bind fun d M => match asg tg d M r with
  | some r' => .ok (.nx r') M
  | none => .stuck
theorem kAsg_k0 (tg : Tg) (r : En) (d : D) (M : Ar) : kAsg tg r (.ok d M) = (match asg tg d M r with
  | some r' => .ok (.nx r') M
  | none => .stuck) := rfl
theorem xAsg (tg : Tg) (e : Ex) (r : En) (M : Ar) : evS G (.asg tg e) r M = kAsg tg r (evE G e r M) := by first | (simp only [evS, evB, evE, evEs, evAnd, evOr, evO, evC, evSr, evT]; rfl) | simp only [evS, evB, evE, evEs, evAnd, evOr, evO, evC, evSr, evT]
def kNx (r : En) (x : Res Unit) : Res Fl := x.bind fun _ M => .ok (.nx r) M
theorem kNx_k0 (r : En) (u : Unit) (M : Ar) : kNx r (.ok u M) = .ok (.nx r) M := rfl
def kNxD (r : En) (x : Res D) : Res Fl := x.bind fun _ M => .ok (.nx r) M
theorem kNxD_k0 (r : En) (u : D) (M : Ar) : kNxD r (.ok u M) = .ok (.nx r) M := rfl
def kFl2 (c : Nat) (f : Str) (r : En) (d : D) (x : Res D) : Res Fl := x.bind fun x M => kNx r (fldV c x f d M)
theorem kFl2_k0 (c : Nat) (f : Str) (r : En) (d : D) (x : D) (M : Ar) : kFl2 c f r d (.ok x M) = kNx r (fldV c x f d M) := rfl
def kFl1 (c : Nat) (o : Ex) (f : Str) (r : En) (x : Res D) : Res Fl := x.bind fun d M => kFl2 c f r d (evE G o r M)
theorem kFl1_k0 (c : Nat) (o : Ex) (f : Str) (r : En) (d : D) (M : Ar) : kFl1 G c o f r (.ok d M) = kFl2 c f r d (evE G o r M) := rfl
theorem xFld (c : Nat) (o : Ex) (f : Str) (e : Ex) (r : En) (M : Ar) : evS G (.fld c o f e) r M = kFl1 G c o f r (evE G e r M) := by first | (simp only [evS, evB, evE, evEs, evAnd, evOr, evO, evC, evSr, evT]; rfl) | simp only [evS, evB, evE, evEs, evAnd, evOr, evO, evC, evSr, evT]
def kSu3 (r : En) (d : D) (x0 : D) (x : Res D) : Res Fl := x.bind fun y M => kNx r (subV x0 y d M)
theorem kSu3_k0 (r : En) (d : D) (x : D) (y : D) (M : Ar) : kSu3 r d x (.ok y M) = kNx r (subV x y d M) := rfl
def kSu2 (i : Ex) (r : En) (d : D) (x : Res D) : Res Fl := x.bind fun x M => kSu3 r d x (evE G i r M)
theorem kSu2_k0 (i : Ex) (r : En) (d : D) (x : D) (M : Ar) : kSu2 G i r d (.ok x M) = kSu3 r d x (evE G i r M) := rfl
def kSu1 (o : Ex) (i : Ex) (r : En) (x : Res D) : Res Fl := x.bind fun d M => kSu2 G i r d (evE G o r M)
theorem kSu1_k0 (o : Ex) (i : Ex) (r : En) (d : D) (M : Ar) : kSu1 G o i r (.ok d M) = kSu2 G i r d (evE G o r M) := rfl
theorem xSub (o i e : Ex) (r : En) (M : Ar) : evS G (.sub o i e) r M = kSu1 G o i r (evE G e r M) := by first | (simp only [evS, evB, evE, evEs, evAnd, evOr, evO, evC, evSr, evT]; rfl) | simp only [evS, evB, evE, evEs, evAnd, evOr, evO, evC, evSr, evT]
theorem xExpr (e : Ex) (r : En) (M : Ar) : evS G (.expr e) r M = kNxD r (evE G e r M) := by first | (simp only [evS, evB, evE, evEs, evAnd, evOr, evO, evC, evSr, evT]; rfl) | simp only [evS, evB, evE, evEs, evAnd, evOr, evO, evC, evSr, evT]
theorem xRetN (r : En) (M : Ar) : evS G (.ret none) r M = .ok (.rt (.t .non)) M := by first | (simp only [evS, evB, evE, evEs, evAnd, evOr, evO, evC, evSr, evT]; rfl) | simp only [evS, evB, evE, evEs, evAnd, evOr, evO, evC, evSr, evT]
def kRet  (x : Res D) : Res Fl := x.bind fun d M => .ok (.rt d) M
theorem kRet_k0  (d : D) (M : Ar) : kRet  (.ok d M) = .ok (.rt d) M := rfl
theorem xRet (e : Ex) (r : En) (M : Ar) : evS G (.ret (some e)) r M = kRet (evE G e r M) := by first | (simp only [evS, evB, evE, evEs, evAnd, evOr, evO, evC, evSr, evT]; rfl) | simp only [evS, evB, evE, evEs, evAnd, evOr, evO, evC, evSr, evT]
def kIte (a : List Sm) (b : List Sm) (r : En) (x : Res Bool) : Res Fl := x.bind fun k M => match k with
  | true => evB G a r M
  | false => evB G b r M
theorem kIte_k0 (a : List Sm) (b : List Sm) (r : En) (M : Ar) : kIte G a b r (.ok true M) = evB G a r M := rfl
theorem kIte_k1 (a : List Sm) (b : List Sm) (r : En) (M : Ar) : kIte G a b r (.ok false M) = evB G b r M := rfl
theorem xIte (c : Ex) (a b : List Sm) (r : En) (M : Ar) : evS G (.ite c a b) r M = kIte G a b r (evT G c r M) := by first | (simp only [evS, evB, evE, evEs, evAnd, evOr, evO, evC, evSr, evT]; rfl) | simp only [evS, evB, evE, evEs, evAnd, evOr, evO, evC, evSr, evT]
def kTru  (x : Res D) : Res Bool := x.bind truV
theorem kTru_k0  (d : D) (M : Ar) : kTru  (.ok d M) = truV d M := rfl
theorem xT (e : Ex) (r : En) (M : Ar) : evT G e r M = kTru (evE G e r M) := by first | (simp only [evS, evB, evE, evEs, evAnd, evOr, evO, evC, evSr, evT]; rfl) | simp only [evS, evB, evE, evEs, evAnd, evOr, evO, evC, evSr, evT]
theorem xVar (i : Nat) (r : En) (M : Ar) : evE G (.var i) r M = (match r[i]? with
  | some (some d) => .ok d M
  | _ => .stuck) := by first | (simp only [evS, evB, evE, evEs, evAnd, evOr, evO, evC, evSr, evT]; rfl) | simp only [evS, evB, evE, evEs, evAnd, evOr, evO, evC, evSr, evT]
theorem xCon (t : T) (r : En) (M : Ar) : evE G (.con t) r M = .ok (.t t) M := by first | (simp only [evS, evB, evE, evEs, evAnd, evOr, evO, evC, evSr, evT]; rfl) | simp only [evS, evB, evE, evEs, evAnd, evOr, evO, evC, evSr, evT]
theorem xGlo (t : T) (r : En) (M : Ar) : evE G (.glo t) r M = .ok (.t t) M := by simp only [evE]
def kBi2 (o : BinK) (mu : Bool) (x0 : D) (x : Res D) : Res D := x.bind fun y M => binV o mu x0 y M
theorem kBi2_k0 (o : BinK) (mu : Bool) (x0 : D) (y : D) (M : Ar) : kBi2 o mu x0 (.ok y M) = binV o mu x0 y M := rfl
def kBi1 (o : BinK) (mu : Bool) (b : Ex) (r : En) (x : Res D) : Res D := x.bind fun x M => kBi2 o mu x (evE G b r M)
theorem kBi1_k0 (o : BinK) (mu : Bool) (b : Ex) (r : En) (d : D) (M : Ar) : kBi1 G o mu b r (.ok d M) = kBi2 o mu d (evE G b r M) := rfl
theorem xBin (o : BinK) (mu : Bool) (a b : Ex) (r : En) (M : Ar) : evE G (.bin o mu a b) r M = kBi1 G o mu b r (evE G a r M) := by first | (simp only [evS, evB, evE, evEs, evAnd, evOr, evO, evC, evSr, evT]; rfl) | simp only [evS, evB, evE, evEs, evAnd, evOr, evO, evC, evSr, evT]
def kNeg  (x : Res D) : Res D := x.bind fun x M => match x with
  | .t (.int i) => .ok (.t (.int (-i))) M
  | _ => .stuck
theorem kNeg_k0  (i : Int) (M : Ar) : kNeg  (.ok (.t (.int i)) M) = .ok (.t (.int (-i))) M := rfl
theorem xNeg (a : Ex) (r : En) (M : Ar) : evE G (.neg a) r M = kNeg (evE G a r M) := by first | (simp only [evS, evB, evE, evEs, evAnd, evOr, evO, evC, evSr, evT]; rfl) | simp only [evS, evB, evE, evEs, evAnd, evOr, evO, evC, evSr, evT]
def kCm2 (o : CmpK) (x0 : D) (x : Res D) : Res D := x.bind fun y M => cmpV o x0 y M
theorem kCm2_k0 (o : CmpK) (x0 : D) (y : D) (M : Ar) : kCm2 o x0 (.ok y M) = cmpV o x0 y M := rfl
def kCm1 (o : CmpK) (b : Ex) (r : En) (x : Res D) : Res D := x.bind fun x M => kCm2 o x (evE G b r M)
theorem kCm1_k0 (o : CmpK) (b : Ex) (r : En) (d : D) (M : Ar) : kCm1 G o b r (.ok d M) = kCm2 o d (evE G b r M) := rfl
theorem xCmp (o : CmpK) (a b : Ex) (r : En) (M : Ar) : evE G (.cmp o a b) r M = kCm1 G o b r (evE G a r M) := by first | (simp only [evS, evB, evE, evEs, evAnd, evOr, evO, evC, evSr, evT]; rfl) | simp only [evS, evB, evE, evEs, evAnd, evOr, evO, evC, evSr, evT]
def kIsN (yes : Bool) (x : Res D) : Res D := x.bind fun x M => .ok (.t (.bl (isNB yes x))) M
theorem kIsN_k0 (yes : Bool) (d : D) (M : Ar) : kIsN yes (.ok d M) = .ok (.t (.bl (isNB yes d))) M := rfl
theorem xIsN (yes : Bool) (a : Ex) (r : En) (M : Ar) : evE G (.isN yes a) r M = kIsN yes (evE G a r M) := by first | (simp only [evS, evB, evE, evEs, evAnd, evOr, evO, evC, evSr, evT]; rfl) | simp only [evS, evB, evE, evEs, evAnd, evOr, evO, evC, evSr, evT]
def kCh4 (o : CmpK) (y : D) (x : Res D) : Res D := x.bind fun u M => cmpV o y u M
theorem kCh4_k0 (o : CmpK) (y : D) (u : D) (M : Ar) : kCh4 o y (.ok u M) = cmpV o y u M := rfl
def kCh3 (o2 : CmpK) (c : Ex) (y : D) (r : En) (x : Res Bool) : Res D := x.bind fun k M => match k with
  | true => kCh4 o2 y (evE G c r M)
  | false => .ok (.t (.bl false)) M
theorem kCh3_k0 (o2 : CmpK) (c : Ex) (y : D) (r : En) (M : Ar) : kCh3 G o2 c y r (.ok true M) = kCh4 o2 y (evE G c r M) := rfl
theorem kCh3_k1 (o2 : CmpK) (c : Ex) (y : D) (r : En) (M : Ar) : kCh3 G o2 c y r (.ok false M) = .ok (.t (.bl false)) M := rfl
def kCh2 (o1 : CmpK) (o2 : CmpK) (c : Ex) (x0 : D) (r : En) (x : Res D) : Res D := x.bind fun y M => kCh3 G o2 c y r (kTru (cmpV o1 x0 y M))
theorem kCh2_k0 (o1 : CmpK) (o2 : CmpK) (c : Ex) (x0 : D) (r : En) (y : D) (M : Ar) : kCh2 G o1 o2 c x0 r (.ok y M) = kCh3 G o2 c y r (kTru (cmpV o1 x0 y M)) := rfl
def kCh1 (o1 : CmpK) (o2 : CmpK) (b : Ex) (c : Ex) (r : En) (x : Res D) : Res D := x.bind fun x M => kCh2 G o1 o2 c x r (evE G b r M)
theorem kCh1_k0 (o1 : CmpK) (o2 : CmpK) (b : Ex) (c : Ex) (r : En) (d : D) (M : Ar) : kCh1 G o1 o2 b c r (.ok d M) = kCh2 G o1 o2 c d r (evE G b r M) := rfl
theorem xChain (o1 o2 : CmpK) (a b c : Ex) (r : En) (M : Ar) : evE G (.chain o1 o2 a b c) r M = kCh1 G o1 o2 b c r (evE G a r M) := by
  simp only [evE, evAnd, evOr, kCh1, kCh2, kCh3, kCh4, kTru, Res.bind_assoc]
  try rfl
theorem xAnd (es : List Ex) (r : En) (M : Ar) : evE G (.and es) r M = evAnd G es r M := by first | (simp only [evS, evB, evE, evEs, evAnd, evOr, evO, evC, evSr, evT]; rfl) | simp only [evS, evB, evE, evEs, evAnd, evOr, evO, evC, evSr, evT]
theorem xOr (es : List Ex) (r : En) (M : Ar) : evE G (.or es) r M = evOr G es r M := by first | (simp only [evS, evB, evE, evEs, evAnd, evOr, evO, evC, evSr, evT]; rfl) | simp only [evS, evB, evE, evEs, evAnd, evOr, evO, evC, evSr, evT]
def kAnd (es : List Ex) (r : En) (x : Res Bool) : Res D := x.bind fun k M => match k with
  | true => evAnd G es r M
  | false => .ok (.t (.bl false)) M
theorem kAnd_k0 (es : List Ex) (r : En) (M : Ar) : kAnd G es r (.ok true M) = evAnd G es r M := rfl
theorem kAnd_k1 (es : List Ex) (r : En) (M : Ar) : kAnd G es r (.ok false M) = .ok (.t (.bl false)) M := rfl
def kOr (es : List Ex) (r : En) (x : Res Bool) : Res D := x.bind fun k M => match k with
  | true => .ok (.t (.bl true)) M
  | false => evOr G es r M
theorem kOr_k0 (es : List Ex) (r : En) (M : Ar) : kOr G es r (.ok true M) = .ok (.t (.bl true)) M := rfl
theorem kOr_k1 (es : List Ex) (r : En) (M : Ar) : kOr G es r (.ok false M) = evOr G es r M := rfl
theorem xAnd1 (a : Ex) (r : En) (M : Ar) : evAnd G [a] r M = evE G a r M := by first | (simp only [evS, evB, evE, evEs, evAnd, evOr, evO, evC, evSr, evT]; rfl) | simp only [evS, evB, evE, evEs, evAnd, evOr, evO, evC, evSr, evT]
theorem xAnd2 (a b : Ex) (es : List Ex) (r : En) (M : Ar) : evAnd G (a :: b :: es) r M = kAnd G (b :: es) r (kTru (evE G a r M)) := by
  simp only [evE, evAnd, evOr, kAnd, kTru, Res.bind_assoc]
  try rfl
theorem xOr1 (a : Ex) (r : En) (M : Ar) : evOr G [a] r M = evE G a r M := by first | (simp only [evS, evB, evE, evEs, evAnd, evOr, evO, evC, evSr, evT]; rfl) | simp only [evS, evB, evE, evEs, evAnd, evOr, evO, evC, evSr, evT]
theorem xOr2 (a b : Ex) (es : List Ex) (r : En) (M : Ar) : evOr G (a :: b :: es) r M = kOr G (b :: es) r (kTru (evE G a r M)) := by
  simp only [evE, evAnd, evOr, kOr, kTru, Res.bind_assoc]
  try rfl
def kNot  (x : Res Bool) : Res D := x.bind fun k M => .ok (.t (.bl (!k))) M
theorem kNot_k0  (k : Bool) (M : Ar) : kNot  (.ok k M) = .ok (.t (.bl (!k))) M := rfl
theorem xNot (a : Ex) (r : En) (M : Ar) : evE G (.not a) r M = kNot (kTru (evE G a r M)) := by
  simp only [evE, evAnd, evOr, kNot, kTru, Res.bind_assoc]
  try rfl
def kIfe (a : Ex) (b : Ex) (r : En) (x : Res Bool) : Res D := x.bind fun k M => match k with
  | true => evE G a r M
  | false => evE G b r M
theorem kIfe_k0 (a : Ex) (b : Ex) (r : En) (M : Ar) : kIfe G a b r (.ok true M) = evE G a r M := rfl
theorem kIfe_k1 (a : Ex) (b : Ex) (r : En) (M : Ar) : kIfe G a b r (.ok false M) = evE G b r M := rfl
theorem xIfe (c a b : Ex) (r : En) (M : Ar) : evE G (.ife c a b) r M = kIfe G a b r (kTru (evE G c r M)) := by first | (simp only [evS, evB, evE, evEs, evAnd, evOr, evO, evC, evSr, evT]; rfl) | simp only [evS, evB, evE, evEs, evAnd, evOr, evO, evC, evSr, evT]
def kLst (mu : Bool) (x : Res (List D)) : Res D := x.bind fun ds M => mkLn mu ds M
theorem kLst_k0 (mu : Bool) (ds : List D) (M : Ar) : kLst mu (.ok ds M) = mkLn mu ds M := rfl
theorem xLst (mu : Bool) (es : List Ex) (r : En) (M : Ar) : evE G (.list mu es) r M = kLst mu (evEs G es r M) := by first | (simp only [evS, evB, evE, evEs, evAnd, evOr, evO, evC, evSr, evT]; rfl) | simp only [evS, evB, evE, evEs, evAnd, evOr, evO, evC, evSr, evT]
def kTup  (x : Res (List D)) : Res D := x.bind fun ds M => okIf (decide (ds.length ≤ line)) (.ok (frzT ds) M)
theorem kTup_k0  (ds : List D) (M : Ar) : kTup  (.ok ds M) = okIf (decide (ds.length ≤ line)) (.ok (frzT ds) M) := rfl
theorem xTup (es : List Ex) (r : En) (M : Ar) : evE G (.tuple es) r M = kTup (evEs G es r M) := by first | (simp only [evS, evB, evE, evEs, evAnd, evOr, evO, evC, evSr, evT]; rfl) | simp only [evS, evB, evE, evEs, evAnd, evOr, evO, evC, evSr, evT]
def kIx2 (x0 : D) (x : Res D) : Res D := x.bind fun y M => idxV x0 y M
theorem kIx2_k0 (x0 : D) (y : D) (M : Ar) : kIx2 x0 (.ok y M) = idxV x0 y M := rfl
def kIx1 (i : Ex) (r : En) (x : Res D) : Res D := x.bind fun x M => kIx2 x (evE G i r M)
theorem kIx1_k0 (i : Ex) (r : En) (d : D) (M : Ar) : kIx1 G i r (.ok d M) = kIx2 d (evE G i r M) := rfl
theorem xIdx (a i : Ex) (r : En) (M : Ar) : evE G (.idx a i) r M = kIx1 G i r (evE G a r M) := by first | (simp only [evS, evB, evE, evEs, evAnd, evOr, evO, evC, evSr, evT]; rfl) | simp only [evS, evB, evE, evEs, evAnd, evOr, evO, evC, evSr, evT]
def kSl3 (mu : Bool) (x0 : D) (lo : Option Int) (x : Res (Option Int)) : Res D := x.bind fun hi M => slcV mu x0 lo hi M
theorem kSl3_k0 (mu : Bool) (x0 : D) (lo : Option Int) (hi : Option Int) (M : Ar) : kSl3 mu x0 lo (.ok hi M) = slcV mu x0 lo hi M := rfl
def kSl2 (mu : Bool) (x0 : D) (hi : Option Ex) (r : En) (x : Res (Option Int)) : Res D := x.bind fun lo M => kSl3 mu x0 lo (evO G hi r M)
theorem kSl2_k0 (mu : Bool) (x0 : D) (hi : Option Ex) (r : En) (lo : Option Int) (M : Ar) : kSl2 G mu x0 hi r (.ok lo M) = kSl3 mu x0 lo (evO G hi r M) := rfl
def kSl1 (mu : Bool) (lo : Option Ex) (hi : Option Ex) (r : En) (x : Res D) : Res D := x.bind fun x M => kSl2 G mu x hi r (evO G lo r M)
theorem kSl1_k0 (mu : Bool) (lo : Option Ex) (hi : Option Ex) (r : En) (d : D) (M : Ar) : kSl1 G mu lo hi r (.ok d M) = kSl2 G mu d hi r (evO G lo r M) := rfl
theorem xSlc (mu : Bool) (a : Ex) (lo hi : Option Ex) (r : En) (M : Ar) : evE G (.slc mu a lo hi) r M = kSl1 G mu lo hi r (evE G a r M) := by first | (simp only [evS, evB, evE, evEs, evAnd, evOr, evO, evC, evSr, evT]; rfl) | simp only [evS, evB, evE, evEs, evAnd, evOr, evO, evC, evSr, evT]
def kOI  (x : Res D) : Res (Option Int) := x.bind fun x M => match x with
  | .t (.int i) => .ok (some i) M
  | _ => .stuck
theorem kOI_k0  (i : Int) (M : Ar) : kOI  (.ok (.t (.int i)) M) = .ok (some i) M := rfl
theorem xO0 (r : En) (M : Ar) : evO G none r M = .ok none M := by first | (simp only [evS, evB, evE, evEs, evAnd, evOr, evO, evC, evSr, evT]; rfl) | simp only [evS, evB, evE, evEs, evAnd, evOr, evO, evC, evSr, evT]
theorem xO1 (e : Ex) (r : En) (M : Ar) : evO G (some e) r M = kOI (evE G e r M) := by first | (simp only [evS, evB, evE, evEs, evAnd, evOr, evO, evC, evSr, evT]; rfl) | simp only [evS, evB, evE, evEs, evAnd, evOr, evO, evC, evSr, evT]
def kBf (f : BiK) (x : Res (List D)) : Res D := x.bind fun ds M => biV f ds M
theorem kBf_k0 (f : BiK) (ds : List D) (M : Ar) : kBf f (.ok ds M) = biV f ds M := rfl
theorem xBi (f : BiK) (es : List Ex) (r : En) (M : Ar) : evE G (.bi f es) r M = kBf f (evEs G es r M) := by first | (simp only [evS, evB, evE, evEs, evAnd, evOr, evO, evC, evSr, evT]; rfl) | simp only [evS, evB, evE, evEs, evAnd, evOr, evO, evC, evSr, evT]
def kMe2 (m : MeK) (x0 : D) (x : Res (List D)) : Res D := x.bind fun ds M => meV m x0 ds M
theorem kMe2_k0 (m : MeK) (x0 : D) (ds : List D) (M : Ar) : kMe2 m x0 (.ok ds M) = meV m x0 ds M := rfl
def kMe1 (m : MeK) (es : List Ex) (r : En) (x : Res D) : Res D := x.bind fun x M => okIf (isLst M x) (kMe2 m x (evEs G es r M))
theorem kMe1_k0 (m : MeK) (es : List Ex) (r : En) (d : D) (M : Ar) : kMe1 G m es r (.ok d M) = okIf (isLst M d) (kMe2 m d (evEs G es r M)) := rfl
theorem xMe (m : MeK) (o : Ex) (es : List Ex) (r : En) (M : Ar) : evE G (.me m o es) r M = kMe1 G m es r (evE G o r M) := by first | (simp only [evS, evB, evE, evEs, evAnd, evOr, evO, evC, evSr, evT]; rfl) | simp only [evS, evB, evE, evEs, evAnd, evOr, evO, evC, evSr, evT]
def kCal (m : Md) (f : Nat) (x : Res (List D)) : Res D := x.bind fun ds M => callV G m f ds M
theorem kCal_k0 (m : Md) (f : Nat) (ds : List D) (M : Ar) : kCal G m f (.ok ds M) = callV G m f ds M := rfl
theorem xCall (m : Md) (f : Nat) (es : List Ex) (r : En) (M : Ar) : evE G (.call m f es) r M = kCal G m f (evEs G es r M) := by first | (simp only [evS, evB, evE, evEs, evAnd, evOr, evO, evC, evSr, evT]; rfl) | simp only [evS, evB, evE, evEs, evAnd, evOr, evO, evC, evSr, evT]
def kMt2 (f : Nat) (x0 : D) (x : Res (List D)) : Res D := x.bind fun ds M => G f (x0 :: ds) M
theorem kMt2_k0 (f : Nat) (x0 : D) (ds : List D) (M : Ar) : kMt2 G f x0 (.ok ds M) = G f (x0 :: ds) M := rfl
def kMt1 (c : Nat) (m : Str) (f : Nat) (es : List Ex) (r : En) (x : Res D) : Res D := x.bind fun x M => okIf (methB M c m x) (kMt2 G f x (evEs G es r M))
theorem kMt1_k0 (c : Nat) (m : Str) (f : Nat) (es : List Ex) (r : En) (d : D) (M : Ar) : kMt1 G c m f es r (.ok d M) = okIf (methB M c m d) (kMt2 G f d (evEs G es r M)) := rfl
theorem xMeth (c : Nat) (m : Str) (f : Nat) (o : Ex) (es : List Ex) (r : En) (M : Ar) : evE G (.meth c m f o es) r M = kMt1 G c m f es r (evE G o r M) := by first | (simp only [evS, evB, evE, evEs, evAnd, evOr, evO, evC, evSr, evT]; rfl) | simp only [evS, evB, evE, evEs, evAnd, evOr, evO, evC, evSr, evT]
def kMk2 (i : Nat) (x : Res D) : Res D := x.bind fun d M1 => match d with
  | .t .non => .ok (.ref i) M1
  | _ => .stuck
theorem kMk2_k0 (i : Nat) (M : Ar) : kMk2 i (.ok (.t .non) M) = .ok (.ref i) M := rfl
def kMk1 (c : Nat) (f : Nat) (x : Res (List D)) : Res D := x.bind fun ds M => kMk2 M.length (G f (.ref M.length :: ds) (M ++ [.obj c []]))
theorem kMk1_k0 (c : Nat) (f : Nat) (ds : List D) (M : Ar) : kMk1 G c f (.ok ds M) = kMk2 M.length (G f (.ref M.length :: ds) (M ++ [.obj c []])) := rfl
theorem xMake (c f : Nat) (es : List Ex) (r : En) (M : Ar) : evE G (.make c f es) r M = kMk1 G c f (evEs G es r M) := by first | (simp only [evS, evB, evE, evEs, evAnd, evOr, evO, evC, evSr, evT]; rfl) | simp only [evS, evB, evE, evEs, evAnd, evOr, evO, evC, evSr, evT]
def kAt (c : Nat) (f : Str) (x : Res D) : Res D := x.bind fun x M => attrV c x f M
theorem kAt_k0 (c : Nat) (f : Str) (d : D) (M : Ar) : kAt c f (.ok d M) = attrV c d f M := rfl
theorem xAttr (c : Nat) (o : Ex) (f : Str) (r : En) (M : Ar) : evE G (.attr c o f) r M = kAt c f (evE G o r M) := by first | (simp only [evS, evB, evE, evEs, evAnd, evOr, evO, evC, evSr, evT]; rfl) | simp only [evS, evB, evE, evEs, evAnd, evOr, evO, evC, evSr, evT]
def kPi2 (ks : List Str) (ds : List D) (x : Res D) : Res D := x.bind fun y M => pickV ks ds y M
theorem kPi2_k0 (ks : List Str) (ds : List D) (y : D) (M : Ar) : kPi2 ks ds (.ok y M) = pickV ks ds y M := rfl
def kPi1 (ks : List Str) (i : Ex) (r : En) (x : Res (List D)) : Res D := x.bind fun ds M => kPi2 ks ds (evE G i r M)
theorem kPi1_k0 (ks : List Str) (i : Ex) (r : En) (ds : List D) (M : Ar) : kPi1 G ks i r (.ok ds M) = kPi2 ks ds (evE G i r M) := rfl
theorem xPick (ks : List Str) (es : List Ex) (i : Ex) (r : En) (M : Ar) : evE G (.pick ks es i) r M = kPi1 G ks i r (evEs G es r M) := by first | (simp only [evS, evB, evE, evEs, evAnd, evOr, evO, evC, evSr, evT]; rfl) | simp only [evS, evB, evE, evEs, evAnd, evOr, evO, evC, evSr, evT]
def kEs2 (d : D) (x : Res (List D)) : Res (List D) := x.bind fun ds M => .ok (d :: ds) M
theorem kEs2_k0 (d : D) (ds : List D) (M : Ar) : kEs2 d (.ok ds M) = .ok (d :: ds) M := rfl
def kEs1 (es : List Ex) (r : En) (x : Res D) : Res (List D) := x.bind fun d M => kEs2 d (evEs G es r M)
theorem kEs1_k0 (es : List Ex) (r : En) (d : D) (M : Ar) : kEs1 G es r (.ok d M) = kEs2 d (evEs G es r M) := rfl
theorem xEs0 (r : En) (M : Ar) : evEs G [] r M = .ok [] M := by first | (simp only [evS, evB, evE, evEs, evAnd, evOr, evO, evC, evSr, evT]; rfl) | simp only [evS, evB, evE, evEs, evAnd, evOr, evO, evC, evSr, evT]
theorem xEs1 (e : Ex) (es : List Ex) (r : En) (M : Ar) : evEs G (e :: es) r M = kEs1 G es r (evE G e r M) := by first | (simp only [evS, evB, evE, evEs, evAnd, evOr, evO, evC, evSr, evT]; rfl) | simp only [evS, evB, evE, evEs, evAnd, evOr, evO, evC, evSr, evT]
theorem xC0 (r : En) (M : Ar) : evC G none r M = .ok true M := by first | (simp only [evS, evB, evE, evEs, evAnd, evOr, evO, evC, evSr, evT]; rfl) | simp only [evS, evB, evE, evEs, evAnd, evOr, evO, evC, evSr, evT]
theorem xC1 (e : Ex) (r : En) (M : Ar) : evC G (some e) r M = kTru (evE G e r M) := by first | (simp only [evS, evB, evE, evEs, evAnd, evOr, evO, evC, evSr, evT]; rfl) | simp only [evS, evB, evE, evEs, evAnd, evOr, evO, evC, evSr, evT]
def kSq  (x : Res D) : Res Itm := x.bind srSeq
theorem kSq_k0  (d : D) (M : Ar) : kSq  (.ok d M) = srSeq d M := rfl
def kRg  (x : Res (List D)) : Res Itm := x.bind srRng
theorem kRg_k0  (ds : List D) (M : Ar) : kRg  (.ok ds M) = srRng ds M := rfl
def kEu  (x : Res D) : Res Itm := x.bind srEnu
theorem kEu_k0  (d : D) (M : Ar) : kEu  (.ok d M) = srEnu d M := rfl
theorem xSq (e : Ex) (r : En) (M : Ar) : evSr G (.seq e) r M = kSq (evE G e r M) := by first | (simp only [evS, evB, evE, evEs, evAnd, evOr, evO, evC, evSr, evT]; rfl) | simp only [evS, evB, evE, evEs, evAnd, evOr, evO, evC, evSr, evT]
theorem xRg (es : List Ex) (r : En) (M : Ar) : evSr G (.rng es) r M = kRg (evEs G es r M) := by first | (simp only [evS, evB, evE, evEs, evAnd, evOr, evO, evC, evSr, evT]; rfl) | simp only [evS, evB, evE, evEs, evAnd, evOr, evO, evC, evSr, evT]
theorem xEu (e : Ex) (r : En) (M : Ar) : evSr G (.enu e) r M = kEu (evE G e r M) := by first | (simp only [evS, evB, evE, evEs, evAnd, evOr, evO, evC, evSr, evT]; rfl) | simp only [evS, evB, evE, evEs, evAnd, evOr, evO, evC, evSr, evT]
def kCo3 (mu : Bool) (x : Res (List D)) : Res D := x.bind fun l M => mkL mu l M
theorem kCo3_k0 (mu : Bool) (l : List D) (M : Ar) : kCo3 mu (.ok l M) = mkL mu l M := rfl
def kCo2 (mu : Bool) (tg : Tg) (c : Option Ex) (e : Ex) (r : En) (x : Res Itm) : Res D := x.bind fun I M => kCo3 mu (cmpItm (cmpBody G tg c e r) I M)
theorem kCo2_k0 (mu : Bool) (tg : Tg) (c : Option Ex) (e : Ex) (r : En) (I : Itm) (M : Ar) : kCo2 G mu tg c e r (.ok I M) = kCo3 mu (cmpItm (cmpBody G tg c e r) I M) := rfl
theorem xComp (mu : Bool) (tg : Tg) (s : Sr) (c : Option Ex) (e : Ex) (r : En) (M : Ar) : evE G (.comp mu tg s c e) r M = kCo2 G mu tg c e r (evSr G s r M) := by
  simp only [evE]
  rfl
def kB2 (x : Res D) : Res (Option D) := x.bind fun x M => .ok (some x) M
theorem kB2_k0 (x : D) (M : Ar) : kB2 (.ok x M) = .ok (some x) M := rfl
def kB1 (e : Ex) (r : En) (x : Res Bool) : Res (Option D) := x.bind fun k M => match k with
  | true => kB2 (evE G e r M)
  | false => .ok none M
theorem kB1_k0 (e : Ex) (r : En) (M : Ar) : kB1 G e r (.ok true M) = kB2 (evE G e r M) := rfl
theorem kB1_k1 (e : Ex) (r : En) (M : Ar) : kB1 G e r (.ok false M) = .ok none M := rfl
theorem xCb (tg : Tg) (c : Option Ex) (e : Ex) (r : En) (d : D) (M : Ar) : cmpBody G tg c e r d M = noExc (match asg tg d M (wipeE r tg.slots) with
    | none => .stuck
    | some r' => kB1 G e r' (evC G c r' M)) := rfl
theorem noExc_k0 {α : Type} (a : α) (M : Ar) : noExc (.ok a M) = .ok a M := rfl
def kCF (b : D → Ar → Res (Option D)) (l acc : List D) (x : Res (Option D)) : Res (List D) := x.bind fun o M => match o with
  | none => cmpF b l acc M
  | some x => okIf (decide (acc.length < line)) (cmpF b l (acc ++ [x]) M)
theorem kCF_k0 (b : D → Ar → Res (Option D)) (l acc : List D) (M : Ar) : kCF b l acc (.ok none M) = cmpF b l acc M := rfl
theorem kCF_k1 (b : D → Ar → Res (Option D)) (l acc : List D) (x : D) (M : Ar) : kCF b l acc (.ok (some x) M) = okIf (decide (acc.length < line)) (cmpF b l (acc ++ [x]) M) := rfl
theorem xCF0 (b : D → Ar → Res (Option D)) (acc : List D) (M : Ar) : cmpF b [] acc M = .ok acc M := rfl
theorem xCF1 (b : D → Ar → Res (Option D)) (d : D) (l acc : List D) (M : Ar) : cmpF b (d :: l) acc M = kCF b l acc (b d M) := rfl
theorem xCI (b : D → Ar → Res (Option D)) (l : List D) (M : Ar) : cmpItm b (.fix l) M = cmpF b l [] M := rfl
def kFn (x : Res Fl) : Res D := x.bind fun f M => match f with
  | .nx _ => .ok (.t .non) M
  | .rt d => .ok d M
theorem kFn_k0 (r : En) (M : Ar) : kFn (.ok (.nx r) M) = .ok (.t .non) M := rfl
theorem kFn_k1 (d : D) (M : Ar) : kFn (.ok (.rt d) M) = .ok d M := rfl
theorem xFn (fn : Fn) (ds : List D) (M : Ar) (h : ds.length = fn.np) : fnV G fn ds M = kFn (evB G fn.body (ds.map some ++ List.replicate (fn.names.length - ds.length) none) M) := by
  unfold fnV
  rw [decide_eq_true h]
  rfl
def kMF (c f : Nat) (x : Res (List D)) : Res D := x.bind fun ds M => makeFV G c f ds M
theorem kMF_k0 (c f : Nat) (ds : List D) (M : Ar) : kMF G c f (.ok ds M) = makeFV G c f ds M := rfl
theorem xMakeF (c f : Nat) (es : List Ex) (r : En) (M : Ar) : evE G (.makeF c f es) r M = kMF G c f (evEs G es r M) := by first | (simp only [evS, evB, evE, evEs, evAnd, evOr, evO, evC, evSr, evT]; rfl) | simp only [evS, evB, evE, evEs, evAnd, evOr, evO, evC, evSr, evT]
def kTi (yes : Bool) (l : List (Str × T)) (x : Res D) : Res D := x.bind fun x M => tabInV yes l x M
theorem kTi_k0 (yes : Bool) (l : List (Str × T)) (x : D) (M : Ar) : kTi yes l (.ok x M) = tabInV yes l x M := rfl
theorem xTabIn (yes : Bool) (l : List (Str × T)) (a : Ex) (r : En) (M : Ar) : evE G (.tabIn yes l a) r M = kTi yes l (evE G a r M) := by first | (simp only [evS, evB, evE, evEs, evAnd, evOr, evO, evC, evSr, evT]; rfl) | simp only [evS, evB, evE, evEs, evAnd, evOr, evO, evC, evSr, evT]
def kTg (l : List (Str × T)) (x : Res D) : Res D := x.bind fun x M => tabGetV l x M
theorem kTg_k0 (l : List (Str × T)) (x : D) (M : Ar) : kTg l (.ok x M) = tabGetV l x M := rfl
theorem xTabGet (l : List (Str × T)) (a : Ex) (r : En) (M : Ar) : evE G (.tabGet l a) r M = kTg l (evE G a r M) := by first | (simp only [evS, evB, evE, evEs, evAnd, evOr, evO, evC, evSr, evT]; rfl) | simp only [evS, evB, evE, evEs, evAnd, evOr, evO, evC, evSr, evT]
theorem xDict (mu : Bool) (r : En) (M : Ar) : evE G (.dict mu) r M = mkD mu [] M := by first | (simp only [evS, evB, evE, evEs, evAnd, evOr, evO, evC, evSr, evT]; rfl) | simp only [evS, evB, evE, evEs, evAnd, evOr, evO, evC, evSr, evT]
def gt3 (x y : D) (M : Ar) (z : D) : Res D := match dkOf M x with
  | some l => getV l y z M
  | none => .stuck
def kG3 (x y : D) (u : Res D) : Res D := u.bind fun z M => gt3 x y M z
theorem kG3_k0 (x y z : D) (M : Ar) : kG3 x y (.ok z M) = gt3 x y M z := rfl
def kG2 (b : Ex) (r : En) (x : D) (u : Res D) : Res D := u.bind fun y M => kG3 x y (evE G b r M)
theorem kG2_k0 (b : Ex) (r : En) (x y : D) (M : Ar) : kG2 G b r x (.ok y M) = kG3 x y (evE G b r M) := rfl
def kG1 (a b : Ex) (r : En) (u : Res D) : Res D := u.bind fun x M => (match dkOf M x with
  | none => .stuck
  | some _ => kG2 G b r x (evE G a r M))
theorem kG1_k0 (a b : Ex) (r : En) (x : D) (M : Ar) : kG1 G a b r (.ok x M) = (match dkOf M x with
  | none => .stuck
  | some _ => kG2 G b r x (evE G a r M)) := rfl
theorem xGet2 (d a b : Ex) (r : En) (M : Ar) : evE G (.get2 d a b) r M = kG1 G a b r (evE G d r M) := by first | (simp only [evS, evB, evE, evEs, evAnd, evOr, evO, evC, evSr, evT]; rfl) | simp only [evS, evB, evE, evEs, evAnd, evOr, evO, evC, evSr, evT]
def kSp2 (x : D) (u : Res D) : Res D := u.bind fun y M => splitV x y M
theorem kSp2_k0 (x y : D) (M : Ar) : kSp2 x (.ok y M) = splitV x y M := rfl
def kSp1 (b : Ex) (r : En) (u : Res D) : Res D := u.bind fun x M => (match stOf x with
  | none => .stuck
  | some _ => kSp2 x (evE G b r M))
theorem kSp1_k0 (b : Ex) (r : En) (x : D) (M : Ar) : kSp1 G b r (.ok x M) = (match stOf x with
  | none => .stuck
  | some _ => kSp2 x (evE G b r M)) := rfl
theorem xSplit (a b : Ex) (r : En) (M : Ar) : evE G (.split a b) r M = kSp1 G b r (evE G a r M) := by first | (simp only [evS, evB, evE, evEs, evAnd, evOr, evO, evC, evSr, evT]; rfl) | simp only [evS, evB, evE, evEs, evAnd, evOr, evO, evC, evSr, evT]
def kJo2 (x : D) (u : Res D) : Res D := u.bind fun y M => joinV x y M
theorem kJo2_k0 (x y : D) (M : Ar) : kJo2 x (.ok y M) = joinV x y M := rfl
def kJo1 (b : Ex) (r : En) (u : Res D) : Res D := u.bind fun x M => (match stOf x with
  | none => .stuck
  | some _ => kJo2 x (evE G b r M))
theorem kJo1_k0 (b : Ex) (r : En) (x : D) (M : Ar) : kJo1 G b r (.ok x M) = (match stOf x with
  | none => .stuck
  | some _ => kJo2 x (evE G b r M)) := rfl
theorem xJoin (a b : Ex) (r : En) (M : Ar) : evE G (.join a b) r M = kJo1 G b r (evE G a r M) := by first | (simp only [evS, evB, evE, evEs, evAnd, evOr, evO, evC, evSr, evT]; rfl) | simp only [evS, evB, evE, evEs, evAnd, evOr, evO, evC, evSr, evT]
def kPg3 (ks : List Str) (ds : List D) (y : D) (u : Res D) : Res D := u.bind fun z M => pickGV ks ds y z M
theorem kPg3_k0 (ks : List Str) (ds : List D) (y z : D) (M : Ar) : kPg3 ks ds y (.ok z M) = pickGV ks ds y z M := rfl
def kPg2 (ks : List Str) (b : Ex) (r : En) (ds : List D) (u : Res D) : Res D := u.bind fun y M => kPg3 ks ds y (evE G b r M)
theorem kPg2_k0 (ks : List Str) (b : Ex) (r : En) (ds : List D) (y : D) (M : Ar) : kPg2 G ks b r ds (.ok y M) = kPg3 ks ds y (evE G b r M) := rfl
def kPg1 (ks : List Str) (i b : Ex) (r : En) (u : Res (List D)) : Res D := u.bind fun ds M => kPg2 G ks b r ds (evE G i r M)
theorem kPg1_k0 (ks : List Str) (i b : Ex) (r : En) (ds : List D) (M : Ar) : kPg1 G ks i b r (.ok ds M) = kPg2 G ks b r ds (evE G i r M) := rfl
theorem xPickG (ks : List Str) (es : List Ex) (i b : Ex) (r : En) (M : Ar) : evE G (.pickG ks es i b) r M = kPg1 G ks i b r (evEs G es r M) := by first | (simp only [evS, evB, evE, evEs, evAnd, evOr, evO, evC, evSr, evT]; rfl) | simp only [evS, evB, evE, evEs, evAnd, evOr, evO, evC, evSr, evT]
end
end Rw
end
set_option maxRecDepth 100000
local macro_rules | `(tactic| simp_arith [$ls,*] $[$loc]?) => `(tactic| simp -implicitDefEqProofs [Rw.kSeq_k0, Rw.kSeq_k1, Rw.xB0, Rw.xB1, Rw.kAsg_k0, Rw.xAsg, Rw.kNx_k0, Rw.kNxD_k0, Rw.kFl2_k0, Rw.kFl1_k0, Rw.xFld, Rw.kSu3_k0, Rw.kSu2_k0, Rw.kSu1_k0, Rw.xSub, Rw.xExpr, Rw.xRetN, Rw.kRet_k0, Rw.xRet, Rw.kIte_k0, Rw.kIte_k1, Rw.xIte, Rw.kTru_k0, Rw.xT, Rw.xVar, Rw.xCon, Rw.xGlo, Rw.kBi2_k0, Rw.kBi1_k0, Rw.xBin, Rw.kNeg_k0, Rw.xNeg, Rw.kCm2_k0, Rw.kCm1_k0, Rw.xCmp, Rw.kIsN_k0, Rw.xIsN, Rw.kCh4_k0, Rw.kCh3_k0, Rw.kCh3_k1, Rw.kCh2_k0, Rw.kCh1_k0, Rw.xChain, Rw.xAnd, Rw.xOr, Rw.kAnd_k0, Rw.kAnd_k1, Rw.kOr_k0, Rw.kOr_k1, Rw.xAnd1, Rw.xAnd2, Rw.xOr1, Rw.xOr2, Rw.kNot_k0, Rw.xNot, Rw.kIfe_k0, Rw.kIfe_k1, Rw.xIfe, Rw.kLst_k0, Rw.xLst, Rw.kTup_k0, Rw.xTup, Rw.kIx2_k0, Rw.kIx1_k0, Rw.xIdx, Rw.kSl3_k0, Rw.kSl2_k0, Rw.kSl1_k0, Rw.xSlc, Rw.kOI_k0, Rw.xO0, Rw.xO1, Rw.kBf_k0, Rw.xBi, Rw.kMe2_k0, Rw.kMe1_k0, Rw.xMe, Rw.kCal_k0, Rw.xCall, Rw.kMt2_k0, Rw.kMt1_k0, Rw.xMeth, Rw.kMk2_k0, Rw.kMk1_k0, Rw.xMake, Rw.kAt_k0, Rw.xAttr, Rw.kPi2_k0, Rw.kPi1_k0, Rw.xPick, Rw.kEs2_k0, Rw.kEs1_k0, Rw.xEs0, Rw.xEs1, Rw.xC0, Rw.xC1, Rw.kSq_k0, Rw.kRg_k0, Rw.kEu_k0, Rw.xSq, Rw.xRg, Rw.xEu, Rw.kFn_k0, Rw.kFn_k1, Rw.kCo3_k0, Rw.kCo2_k0, Rw.xComp, Rw.kB2_k0, Rw.kB1_k0, Rw.kB1_k1, Rw.xCb, Rw.noExc_k0, Rw.kCF_k0, Rw.kCF_k1, Rw.xCF0, Rw.xCF1, Rw.xCI, Rw.kMF_k0, Rw.xMakeF, Rw.kTi_k0, Rw.xTabIn, Rw.kTg_k0, Rw.xTabGet, Rw.xDict, Rw.gt3, Rw.kG3_k0, Rw.kG2_k0, Rw.kG1_k0, Rw.xGet2, Rw.kSp2_k0, Rw.kSp1_k0, Rw.xSplit, Rw.kJo2_k0, Rw.kJo1_k0, Rw.xJoin, Rw.kPg3_k0, Rw.kPg2_k0, Rw.kPg1_k0, Rw.xPickG, Rw.xFn, Rw.okIf, Rw.idxV, Rw.idxQ, Rw.idxS, Rw.idxD, Rw.stOf, Rw.dkOf, Rw.keyD, Rw.valD, List.find?, Rw.sqOf, Rw.cmpV, Rw.cmpN, Rw.cmpI, Rw.truV, Rw.binV, Rw.asg, Rw.asgs, Rw.subV, Rw.putKD, Rw.mkL, Rw.mkLn, Rw.mkD, Rw.frzD, Rw.frzL, Rw.frzT, Rw.allT, Rw.isNB, Rw.at0, Rw.at1, Rw.at2, Rw.at3, L2.ixN, Rw.biV, Rw.lenV, Rw.eq_int, Rw.eq_str, Rw.line, Rw.lsOf_tl, Rw.tpOf_tl, Rw.scOf_tl, Rw.snap_t, Rw.allT_il, Rw.tl_fold, Rw.tl0, Rw.tl1, Rw.tl2, Rw.il0, Rw.il1, Rw.il2, Rw.il_len, Rw.lsO_non, Rw.tpO_non, Rw.scO_non, Rw.lsO_bl, Rw.tpO_bl, Rw.scO_bl, Rw.lsO_int, Rw.tpO_int, Rw.scO_int, Rw.lsO_str, Rw.tpO_str, Rw.scO_str, Rw.lsO_tup, Rw.tpO_tup, Rw.scO_tup, Rw.lsO_lst, Rw.tpO_lst, Rw.scO_lst, Rw.lsO_scr, Rw.tpO_scr, Rw.scO_scr, Rw.lsO_ref, Rw.tpO_ref, Rw.scO_ref, Rw.lsO_Dt, Rw.tpO_Dt, Rw.scO_Dt, Rw.lsO_Dl, Rw.tpO_Dl, Rw.scO_Dl, $ls,*] $[$loc]?)
section
set_option Elab.async false
set_option linter.all false
set_option maxRecDepth 100000
set_option maxHeartbeats 0
namespace Rw
open PySem Rw.Pr
section
variable {fns : Nat → Option Fn}
theorem run_at {k f : Nat} {fn : Fn} {ds : List D} {M : Ar} (h : fns f = some fn) : run fns (k + 1) f ds M = fnV (run fns k) fn ds M := by
  show (match fns f with | none => Res.stuck | some fn => fnV (run fns k) fn ds M) = _
  rw [h]
def stt (ns : List Int) (p m r : Int) : MO := .lst [.t (.scr ns), .t (.int p), .t (.int m), .t (.int r)]
theorem drawn_a {k : Nat} {ns : List Int} {p m r n : Int} {rest : Ar} (hf : fns 84 = some f__law_drawn) (h1 : 0 < r) (h2 : 0 < n) (h3 : n < 1073741824) : run fns (k + 1) 84 [.ref 0, .t (.int n)] (stt ns p m r :: rest) = .ok (.t (.int (r % n))) (stt ns p m (r / n) :: rest) := by
  rw [run_at hf]
  simp_arith [f__law_drawn, stt, h1, h2, h3]
theorem drawn_b {k : Nat} {ns : List Int} {p m r n : Int} {rest : Ar} (hf : fns 84 = some f__law_drawn) (h1 : ¬ 0 < r) (h2 : 0 < n) (h3 : n < 1073741824) (h4 : 0 ≤ p) (h5 : p + 1 ≤ ns.length) :
    ∃ c : Int, run fns (k + 1) 84 [.ref 0, .t (.int n)] (stt ns p m r :: rest) = .ok (.t (.int (c % n))) (stt ns (p + 1) m (if 1000000000000000000 ≤ c then c / n else 0) :: rest) := by
  rw [run_at hf]
  have h6 : p.toNat < ns.length := by omega
  refine ⟨ns[p.toNat], ?_⟩
  have h7 : p < ns.length := by omega
  by_cases hc : 1000000000000000000 ≤ ns[p.toNat]
  · simp_arith [f__law_drawn, stt, h1, h2, h3, h4, h5, h6, h7, hc, L2.atI]
  · simp_arith [f__law_drawn, stt, h1, h2, h3, h4, h5, h6, h7, hc, L2.atI]
theorem drawn_c {k : Nat} {ns : List Int} {p m r n : Int} {rest : Ar} (hf : fns 84 = some f__law_drawn) (h1 : ¬ 0 < r) (h2 : 0 < n) (h3 : n < 1073741824) (h4 : 0 ≤ p) (h5 : ¬ p + 1 ≤ ns.length) :
    run fns (k + 1) 84 [.ref 0, .t (.int n)] (stt ns p m r :: rest) = .ok (.t (.int ((m * 48271 + 11) % 2147483647 / 7 % n))) (stt ns (p + 1) ((m * 48271 + 11) % 2147483647) r :: rest) := by
  rw [run_at hf]
  simp_arith [f__law_drawn, stt, h1, h2, h3, h4, h5]
/-- the state of the draws -/
def Stt (ns : List Int) (o : MO) : Prop := ∃ p m r, o = stt ns p m r ∧ 0 ≤ p ∧ 0 ≤ m ∧ 0 ≤ r
theorem drawn_ok {k : Nat} {ns : List Int} {o : MO} {n : Int} {rest : Ar} (hf : fns 84 = some f__law_drawn) (hs : Stt ns o) (h2 : 0 < n) (h3 : n < 1073741824) :
    ∃ (v : Int) (o' : MO), run fns (k + 1) 84 [.ref 0, .t (.int n)] (o :: rest) = .ok (.t (.int v)) (o' :: rest) ∧ 0 ≤ v ∧ v < n ∧ Stt ns o' := by
  obtain ⟨p, m, r, rfl, hp, hm, hr⟩ := hs
  by_cases h1 : 0 < r
  · exact ⟨_, _, drawn_a hf h1 h2 h3, Int.emod_nonneg _ (by omega), Int.emod_lt_of_pos _ h2, _, _, _, rfl, hp, hm, Int.ediv_nonneg hr (by omega)⟩
  · by_cases h5 : p + 1 ≤ ns.length
    · obtain ⟨c, e⟩ := drawn_b (k := k) (m := m) (rest := rest) hf h1 h2 h3 hp h5
      refine ⟨_, _, e, Int.emod_nonneg _ (by omega), Int.emod_lt_of_pos _ h2, _, _, _, rfl, by omega, hm, ?_⟩
      split
      · exact Int.ediv_nonneg (by omega) (by omega)
      · exact Int.le_refl _
    · exact ⟨_, _, drawn_c hf h1 h2 h3 hp h5, Int.emod_nonneg _ (by omega), Int.emod_lt_of_pos _ h2, _, _, _, rfl, by omega, Int.emod_nonneg _ (by omega), hr⟩
theorem start_ok {k : Nat} {ns : List Int} (hf : fns 83 = some f__law_start) : ∃ o, run fns (k + 1) 83 [.t (.scr ns)] [] = .ok (.ref 0) [o] ∧ Stt ns o := by
  rw [run_at hf]
  obtain ⟨r', M', e, rfl, m, x, hm, rfl⟩ := forF_ok (b := forBody (run fns k) (.var 2) f__law_start_B0) (fun r M => M = [] ∧ ∃ m x, 0 ≤ m ∧ r = [some (.t (.scr ns)), some (.t (.int m)), x]) (ns.map fun i => D.t (.int i)) [some (.t (.scr ns)), some (.t (.int 1)), none] [] (fun d hd r M h => by
      obtain ⟨rfl, m, x, hm, rfl⟩ := h
      obtain ⟨i, _, rfl⟩ := List.mem_map.mp hd
      refine ⟨[some (.t (.scr ns)), some (.t (.int ((m * 48271 + i + 7) % 2147483647))), some (.t (.int i))], [], ?_, rfl, _, _, Int.emod_nonneg _ (by omega), rfl⟩
      simp_arith [forBody, f__law_start_B0]) ⟨rfl, 1, none, by omega, rfl⟩
  refine ⟨stt ns 0 m 0, ?_, 0, m, 0, rfl, by omega, hm, by omega⟩
  have e2 : evS (run fns k) f__law_start_L0 [some (.t (.scr ns)), some (.t (.int 1)), none] [] = .ok (.nx [some (.t (.scr ns)), some (.t (.int m)), x]) [] := evS_for _ (by simp_arith [srSeq]) e
  simp_arith [f__law_start, e2, stt]
end
end Rw
end
section
set_option Elab.async false
set_option linter.all false
set_option maxRecDepth 100000
set_option maxHeartbeats 0
namespace Rw
open PySem Rw.Pr
def Sx (l : List Nat) : Str := ⟨l.toArray⟩
/-- a list against the empty one -/
theorem eq_nil_of {M : Ar} {l : List T} {k : Bool → Bool} : eqV2 M (.t (.lst l)) (.t (.lst [])) k = .ok (.t (.bl (k l.isEmpty))) M := by
  cases l with
  | nil => exact eq_tl M [] [] k
  | cons a l => rfl
theorem allT_map_t : ∀ l : List T, allT (l.map .t) = some l
  | [] => rfl
  | a :: l => by rw [List.map_cons]; show (match allT (l.map .t) with | some l => some (a :: l) | none => none) = _; rw [allT_map_t l]
theorem frzL_map (l : List T) : frzL (l.map .t) = .t (.lst l) := by unfold frzL; rw [allT_map_t]
theorem callV_plain (G : Cal) (f : Nat) (ds : List D) (M : Ar) : callV G .plain f ds M = G f ds M := rfl
theorem callV_clean {G : Cal} {f : Nat} {ds : List D} {ts : List T} {M M1 : Ar} {d : D} {t : T} (h1 : allT ds = some ts) (h2 : G f (ts.map .t) [] = .ok d M1) (h3 : snap M1 deep d = some t) : callV G .clean f ds M = .ok (.t t) M := by
  simp only [callV, h1, h2, h3]
theorem callV_focus {G : Cal} {f i : Nat} {ds : List D} {ts ts1 ts2 : List T} {l l' : List D} {M r : Ar} {d : D} {t : T} (h1 : M[i]? = some (.lst l)) (h2 : allT ds = some ts) (h3 : allT l = some ts1) (h4 : G f (.ref 0 :: ts.map .t) [.lst l] = .ok d (.lst l' :: r)) (h5 : allT l' = some ts2) (h6 : snap (.gone :: r) deep d = some t) : callV G .focus f (.ref i :: ds) M = .ok (.t t) (M.set i (.lst l')) := by
  simp only [callV, h1, h2, h3, h4, foc, h5, h6]
end Rw
end
local macro_rules | `(tactic| simp_arith! [$ls,*] $[$loc]?) => `(tactic| simp -implicitDefEqProofs [Rw.kSeq_k0, Rw.kSeq_k1, Rw.xB0, Rw.xB1, Rw.kAsg_k0, Rw.xAsg, Rw.kNx_k0, Rw.kNxD_k0, Rw.kFl2_k0, Rw.kFl1_k0, Rw.xFld, Rw.kSu3_k0, Rw.kSu2_k0, Rw.kSu1_k0, Rw.xSub, Rw.xExpr, Rw.xRetN, Rw.kRet_k0, Rw.xRet, Rw.kIte_k0, Rw.kIte_k1, Rw.xIte, Rw.kTru_k0, Rw.xT, Rw.xVar, Rw.xCon, Rw.xGlo, Rw.kBi2_k0, Rw.kBi1_k0, Rw.xBin, Rw.kNeg_k0, Rw.xNeg, Rw.kCm2_k0, Rw.kCm1_k0, Rw.xCmp, Rw.kIsN_k0, Rw.xIsN, Rw.kCh4_k0, Rw.kCh3_k0, Rw.kCh3_k1, Rw.kCh2_k0, Rw.kCh1_k0, Rw.xChain, Rw.xAnd, Rw.xOr, Rw.kAnd_k0, Rw.kAnd_k1, Rw.kOr_k0, Rw.kOr_k1, Rw.xAnd1, Rw.xAnd2, Rw.xOr1, Rw.xOr2, Rw.kNot_k0, Rw.xNot, Rw.kIfe_k0, Rw.kIfe_k1, Rw.xIfe, Rw.kLst_k0, Rw.xLst, Rw.kTup_k0, Rw.xTup, Rw.kIx2_k0, Rw.kIx1_k0, Rw.xIdx, Rw.kSl3_k0, Rw.kSl2_k0, Rw.kSl1_k0, Rw.xSlc, Rw.kOI_k0, Rw.xO0, Rw.xO1, Rw.kBf_k0, Rw.xBi, Rw.kMe2_k0, Rw.kMe1_k0, Rw.xMe, Rw.kCal_k0, Rw.xCall, Rw.kMt2_k0, Rw.kMt1_k0, Rw.xMeth, Rw.kMk2_k0, Rw.kMk1_k0, Rw.xMake, Rw.kAt_k0, Rw.xAttr, Rw.kPi2_k0, Rw.kPi1_k0, Rw.xPick, Rw.kEs2_k0, Rw.kEs1_k0, Rw.xEs0, Rw.xEs1, Rw.xC0, Rw.xC1, Rw.kSq_k0, Rw.kRg_k0, Rw.kEu_k0, Rw.xSq, Rw.xRg, Rw.xEu, Rw.kFn_k0, Rw.kFn_k1, Rw.kCo3_k0, Rw.kCo2_k0, Rw.xComp, Rw.kB2_k0, Rw.kB1_k0, Rw.kB1_k1, Rw.xCb, Rw.noExc_k0, Rw.kCF_k0, Rw.kCF_k1, Rw.xCF0, Rw.xCF1, Rw.xCI, Rw.kMF_k0, Rw.xMakeF, Rw.kTi_k0, Rw.xTabIn, Rw.kTg_k0, Rw.xTabGet, Rw.xDict, Rw.gt3, Rw.kG3_k0, Rw.kG2_k0, Rw.kG1_k0, Rw.xGet2, Rw.kSp2_k0, Rw.kSp1_k0, Rw.xSplit, Rw.kJo2_k0, Rw.kJo1_k0, Rw.xJoin, Rw.kPg3_k0, Rw.kPg2_k0, Rw.kPg1_k0, Rw.xPickG, Rw.xFn, Rw.okIf, Rw.idxV, Rw.idxQ, Rw.idxS, Rw.idxD, Rw.stOf, Rw.dkOf, Rw.keyD, Rw.valD, List.find?, Rw.sqOf, Rw.cmpV, Rw.cmpN, Rw.cmpI, Rw.truV, Rw.binV, Rw.asg, Rw.asgs, Rw.subV, Rw.putKD, Rw.mkL, Rw.mkLn, Rw.mkD, Rw.frzD, Rw.frzL, Rw.frzT, Rw.allT, Rw.isNB, Rw.at0, Rw.at1, Rw.at2, Rw.at3, L2.ixN, Rw.biV, Rw.lenV, Rw.eq_int, Rw.eq_str, Rw.line, Rw.lsOf_tl, Rw.tpOf_tl, Rw.scOf_tl, Rw.snap_t, Rw.allT_il, Rw.tl_fold, Rw.tl0, Rw.tl1, Rw.tl2, Rw.il0, Rw.il1, Rw.il2, Rw.il_len, Rw.lsO_non, Rw.tpO_non, Rw.scO_non, Rw.lsO_bl, Rw.tpO_bl, Rw.scO_bl, Rw.lsO_int, Rw.tpO_int, Rw.scO_int, Rw.lsO_str, Rw.tpO_str, Rw.scO_str, Rw.lsO_tup, Rw.tpO_tup, Rw.scO_tup, Rw.lsO_lst, Rw.tpO_lst, Rw.scO_lst, Rw.lsO_scr, Rw.tpO_scr, Rw.scO_scr, Rw.lsO_ref, Rw.tpO_ref, Rw.scO_ref, Rw.lsO_Dt, Rw.tpO_Dt, Rw.scO_Dt, Rw.lsO_Dl, Rw.tpO_Dl, Rw.scO_Dl, Rw.objOf, Rw.fdOf, Rw.attrV, Rw.fldV, Rw.setO, Rw.putD, Rw.methB, Rw.meV, Rw.isLst, Rw.callV_plain, Rw.pickV, Rw.inV1, Rw.inV2, Rw.scV, Rw.mapO, L2.inV, L2.eqV, List.lookup, Rw.beq_ofString, Rw.ofString_inj, Rw.tabInV, Rw.tabGetV, Rw.isV, Rw.tyD, Rw.tyT, Rw.isTy, $ls,*] $[$loc]?)
section
set_option Elab.async false
set_option linter.all false
set_option maxRecDepth 100000
set_option maxHeartbeats 0
namespace Rw
open PySem Rw.Pr
abbrev sD (l : List Nat) : D := .t (.str (Sx l))
section
variable {F : Nat → Option Fn} {k : Nat}
def pm (c : Nat) : Bool := decide (c = 43 ∨ c = 45)
/-- a loop's one turn, then the others -/
theorem forF_cons {b : D → En → Ar → Res Fl} {d : D} {l : List D} {r r' : En} {M M' : Ar} (h : b d r M = .ok (.nx r') M') : forF b (d :: l) r M = forF b l r' M' := by
  show (b d r M).bind _ = _
  rw [h]
  rfl
end
end Rw
end
section
set_option Elab.async false
set_option linter.all false
set_option maxRecDepth 100000
set_option maxHeartbeats 0
namespace Rw
open PySem Rw.Pr
section
variable {F : Nat → Option Fn} {k : Nat}
abbrev sT (l : List Nat) : T := .str (Sx l)
end
end Rw
end
section
set_option Elab.async false
set_option linter.all false
set_option maxRecDepth 100000
set_option maxHeartbeats 0
namespace Rw
open PySem Rw.Pr
section
variable {F : Nat → Option Fn} {k : Nat}
abbrev Tm := Int × (Int ⊕ List Nat)
def tT : Tm → T
  | (s, .inl n) => .tup [.int s, .int n]
  | (s, .inr w) => .tup [.int s, .str (Sx w)]
def here : List Nat := [104, 101, 114, 101]
def tmV (W : List Nat → Int) (p : Int) : Tm → Int
  | (s, .inl n) => s * n
  | (s, .inr w) => s * (if w = here then p else W w)
def smV (W : List Nat → Int) (p : Int) (ts : List Tm) : Int := (ts.map (tmV W p)).sum
end
end Rw
end
section
set_option Elab.async false
set_option linter.all false
set_option maxRecDepth 100000
set_option maxHeartbeats 0
namespace Rw
open PySem Rw.Pr
theorem cmpF_map {α : Type} {b : D → Ar → Res (Option D)} {g h : α → D} {M : Ar} : ∀ (l : List α) (acc : List D), (∀ x ∈ l, b (g x) M = .ok (some (h x)) M) → acc.length + l.length ≤ line → cmpF b (l.map g) acc M = .ok (acc ++ l.map h) M
  | [], acc, _, _ => by simp [cmpF]
  | x :: l, acc, hb, hl => by
    rw [List.length_cons] at hl
    rw [List.map_cons, xCF1, hb x List.mem_cons_self, kCF_k1, decide_eq_true (show acc.length < line by omega)]
    show cmpF b (l.map g) (acc ++ [h x]) M = _
    rw [cmpF_map l (acc ++ [h x]) (fun x hx => hb x (List.mem_cons_of_mem _ hx)) (by simp; omega)]
    simp
theorem comp_map {α : Type} {b : D → Ar → Res (Option D)} {g h : α → D} {M : Ar} {l : List α} (hb : ∀ x ∈ l, b (g x) M = .ok (some (h x)) M) (hl : l.length ≤ line) : cmpF b (l.map g) [] M = .ok (l.map h) M := by
  rw [cmpF_map l [] hb (by simpa using hl), List.nil_append]
section
variable {F : Nat → Option Fn} {k : Nat}
def nmF : List (List Nat) → List Tm → List (List Nat)
  | f, [] => f
  | f, (_, .inl _) :: l => nmF f l
  | f, (_, .inr w) :: l => if w = here ∨ w ∈ f then nmF f l else nmF (f ++ [w]) l
theorem mapO_snap_t {M : Ar} {n : Nat} : ∀ l : List T, mapO (snap M n) (l.map .t) = some l
  | [] => rfl
  | x :: l => by
    rw [List.map_cons]
    simp only [mapO, snap_t, mapO_snap_t l]
theorem snap_lst {M : Ar} {i : Nat} {l : List T} (h : M[i]? = some (.lst (l.map .t))) : snap M deep (.ref i) = some (.lst l) := by
  unfold deep
  simp only [snap, h, mapO_snap_t, Option.map_some]
end
end Rw
end
section
set_option Elab.async false
set_option linter.all false
set_option maxRecDepth 100000
set_option maxHeartbeats 0
namespace Rw
open PySem Rw.Pr
/-- a literal's signs -/
def cs (s : String) : List Nat := s.toList.map Char.toNat
theorem lit (s : String) : Str.ofString s = Sx (cs s) := Str.ofString_eq_toList s
theorem slc_t {M : Ar} {l : List T} {lo hi : Option Int} : slcV false (.t (.lst l)) lo hi M = .ok (.t (.lst (cut l lo hi))) M := by
  unfold slcV slcQ
  simp only [stOf, lsOf, mkL]
  rw [show cut (l.map D.t) lo hi = (cut l lo hi).map D.t by simp [cut, List.map_drop, List.map_take], frzL_map]
section
variable {F : Nat → Option Fn} {k : Nat}
def rowT (n nm op bs ss wh : T) : T := .obj 2 ["number", "name", "op", "boxes", "sums", "what"] [n, nm, op, bs, ss, wh]
end
end Rw
end
section
set_option Elab.async false
set_option linter.all false
set_option maxRecDepth 100000
set_option maxHeartbeats 0
namespace Rw
open PySem Rw.Pr
section
variable {F : Nat → Option Fn} {k : Nat}
def ssT (ss : List (List Tm)) : T := .lst (ss.map fun ts => T.tup (ts.map tT))
def bsT (bs : List Nat) : T := .lst (bs.map fun (i : Nat) => T.int (i : Int))
def noneT : Option (List Nat) → T
  | none => .non
  | some w => sT w
/-- (a sum's word, its terms) -/
abbrev Wt := List Nat × List Tm
end
end Rw
end
section
set_option Elab.async false
set_option linter.all false
set_option maxRecDepth 100000
set_option maxHeartbeats 0
namespace Rw
open PySem Rw.Pr
end Rw
end
section
set_option Elab.async false
set_option linter.all false
set_option maxRecDepth 100000
set_option maxHeartbeats 0
namespace Rw
open PySem Rw.Pr
structure RowS where
  n : Nat
  name : Option (List Nat)
  op : Option String
  bs : List Nat
  sums : List (List Tm)
  what : Option (List Nat)
def opT : Option String → T
  | none => .non
  | some o => .str (Str.ofString o)
def RowS.T (r : RowS) : T := rowT (.int r.n) (noneT r.name) (opT r.op) (bsT r.bs) (ssT r.sums) (noneT r.what)
section
variable {F : Nat → Option Fn} {k : Nat}
variable {M : Ar}
def RowS.nms (r : RowS) : List (List Nat) := r.sums.flatMap (nmF [])
def hasF (ts : List Tm) : Bool := ts.any fun x => decide (x.2 = .inr here)
def RowS.has (r : RowS) : Bool := r.sums.any hasF
end
end Rw
end
section
set_option Elab.async false
set_option linter.all false
set_option maxRecDepth 100000
set_option maxHeartbeats 0
namespace Rw
open PySem Rw.Pr
section
variable {F : Nat → Option Fn} {k : Nat}
abbrev rD (r : RowS) : D := .t r.T
theorem cmpF_filt {α : Type} {b : D → Ar → Res (Option D)} {g h : α → D} {p : α → Bool} {M : Ar} : ∀ (l : List α) (acc : List D), (∀ x ∈ l, b (g x) M = .ok (if p x then some (h x) else none) M) → acc.length + l.length ≤ line → cmpF b (l.map g) acc M = .ok (acc ++ (l.filter p).map h) M
  | [], acc, _, _ => by simp [cmpF]
  | x :: l, acc, hb, hl => by
    rw [List.length_cons] at hl
    rw [List.map_cons, xCF1, hb x List.mem_cons_self]
    cases hp : p x with
    | true =>
      rw [if_pos rfl, kCF_k1, decide_eq_true (show acc.length < line by omega)]
      show cmpF b (l.map g) (acc ++ [h x]) M = _
      rw [cmpF_filt l (acc ++ [h x]) (fun x hx => hb x (List.mem_cons_of_mem _ hx)) (by simp; omega), List.filter_cons, if_pos hp]
      simp
    | false =>
      rw [if_neg (by simp), kCF_k0, cmpF_filt l acc (fun x hx => hb x (List.mem_cons_of_mem _ hx)) (by omega), List.filter_cons, if_neg (by simp [hp])]
def iD (i : Int) : D := .t (.int i)
end
end Rw
end
section
set_option Elab.async false
set_option linter.all false
set_option maxRecDepth 100000
set_option maxHeartbeats 0
namespace Rw
open PySem Rw.Pr
/-- a dict's worth of a name -/
def alW (al : List (List Nat × Int)) (w : List Nat) : Int := (al.lookup w).getD 0
section
variable {F : Nat → Option Fn} {k : Nat}
/-- whether a row's sums are sure by names ahead -/
def sureB (al : List (List Nat × Int)) (r : RowS) : Bool := (r.nms.filter fun w => !decide (w ∈ al.map (·.1))).isEmpty && !r.has
/-- what a row's sum comes to by names ahead -/
def kv (al : List (List Nat × Int)) (r : RowS) : Int := smV (alW al) 0 (r.sums.headD [])
def ahR (al : List (List Nat × Int)) (r : RowS) : List (List Nat × Int) := if r.op = some "is" ∧ sureB al r = true then al ++ r.what.toList.map fun w => (w, kv al r) else al
def fxR (n : Nat) (al : List (List Nat × Int)) (r : RowS) : List (Nat × Int) := if r.op = some "at" ∨ r.op = some "room" then [(n, kv al r)] else []
def fxF : Nat → List (List Nat × Int) → List RowS → List (Nat × Int)
  | _, _, [] => []
  | n, al, r :: rs => fxR n al r ++ fxF (n + 1) (ahR al r) rs
end
end Rw
end
section
set_option Elab.async false
set_option linter.all false
set_option maxRecDepth 100000
set_option maxHeartbeats 0
namespace Rw
open PySem Rw.Pr
end Rw
end
section
set_option Elab.async false
set_option linter.all false
set_option maxRecDepth 100000
set_option maxHeartbeats 0
namespace Rw
open PySem Rw.Pr
end Rw
end
section
set_option Elab.async false
set_option linter.all false
set_option maxRecDepth 100000
set_option maxHeartbeats 0
namespace Rw
open PySem Rw.Pr
def en : Nat → List RowS → List (Nat × RowS)
  | _, [] => []
  | n, r :: rs => (n, r) :: en (n + 1) rs
end Rw
end
section
set_option Elab.async false
set_option linter.all false
set_option maxRecDepth 100000
set_option maxHeartbeats 0
namespace Rw
open PySem Rw.Pr
theorem evS_for_live {G : Cal} {tg : Tg} {s : Sr} {b : List Sm} {r : En} {M M0 : Ar} {i n : Nat} {l : List D} {x : Res Fl} (h1 : evSr G s r M = .ok (.live i n) M0) (h2 : forI (forBody G tg b) (.live i n) r M0 = x) : evS G (.for tg s b) r M = x := by
  rw [← h2]
  simp only [evS]
  rw [h1]
  rfl
end Rw
end
section
set_option Elab.async false
set_option linter.all false
set_option maxRecDepth 100000
set_option maxHeartbeats 0
namespace Rw
open PySem Rw.Pr
theorem eq_ref_nil {M : Ar} {i : Nat} {l : List D} {k : Bool → Bool} (h : M[i]? = some (.lst l)) : eqV2 M (.ref i) (.t (.lst [])) k = .ok (.t (.bl (k l.isEmpty))) M := by
  have e1 : lsOf M (.ref i) = some l := by simp only [lsOf, h]
  have e2 : lsOf M (.t (.lst [])) = some [] := rfl
  unfold eqV2
  rw [e1, e2]
  cases l with
  | cons a l => rfl
  | nil =>
    show eqV3 M (.ref i) (.t (.lst [])) k = _
    have e3 : snap M deep (.ref i) = some (.lst []) := by
      unfold deep
      simp only [snap, h]
      rfl
    unfold eqV3
    rw [e3, snap_t]
    rfl
end Rw
end
section
set_option Elab.async false
set_option linter.all false
set_option maxRecDepth 100000
set_option maxHeartbeats 0
namespace Rw
open PySem Rw.Pr
end Rw
end
section
set_option Elab.async false
set_option linter.all false
set_option maxRecDepth 100000
set_option maxHeartbeats 0
namespace Rw
open PySem Rw.Pr
/-- op, first word, how many boxes, how many numbers -/
def opL : List (String × (Int × Int × Int)) := [("stop", 0, 0, 0), ("back", 1, 0, 0), ("say", 4, 1, 0), ("take!", 16, 1, 1), ("move", 32, 2, 0), ("add", 48, 2, 0), ("less", 64, 2, 0), ("load", 80, 1, 1), ("store", 84, 1, 1), ("jump", 96, 0, 1), ("call", 97, 0, 1), ("skip", 99, 0, 1), ("zero", 100, 1, 1), ("same", 112, 2, 1), ("copy", 128, 0, 2)]
def opsOf : Option String → Option (Int × Int × Int)
  | none => none
  | some o => opL.lookup o
section
variable {F : Nat → Option Fn} {k : Nat} {M : Ar}
/-- what an at or room row comes to -/
def fixV (rs : List RowS) (n : Nat) : Int := ((fxF 0 [] rs).lookup n).getD 0
/-- how many words a row has, and where what is behind it lies -/
def szG (rs : List RowS) (lg : List Nat) (n : Nat) (r : RowS) : Int :=
  if r.op = some "take" then (if n ∈ lg then 2 else 1)
  else if r.op = some "word" then r.sums.length
  else if r.op = some "room" then (if fixV rs n > 0 then fixV rs n else 0)
  else match opsOf r.op with
    | some q => 1 + q.2.2
    | none => 0
def nxG (rs : List RowS) (lg : List Nat) (n : Nat) (r : RowS) (p : Int) : Int := if r.op = some "at" then (if fixV rs n > p then fixV rs n else p) else p + szG rs lg n r
def plG (rs : List RowS) (lg : List Nat) : Int → List (Nat × RowS) → List Int
  | _, [] => []
  | p, q :: qs => p :: plG rs lg (nxG rs lg q.1 q.2 p) qs
/-- all places -/
def PS (rs : List RowS) (lg : List Nat) : List Int := plG rs lg 0 (en 0 rs)
variable {rs : List RowS} {lg : List Nat} {g : Ar} {ps : List Int} {e : Int} {ws : T}
end
end Rw
end
section
set_option Elab.async false
set_option linter.all false
set_option maxRecDepth 100000
set_option maxHeartbeats 0
namespace Rw
open PySem Rw.Pr
end Rw
end
section
set_option Elab.async false
set_option linter.all false
set_option maxRecDepth 100000
set_option maxHeartbeats 0
namespace Rw
open PySem Rw.Pr
end Rw
end
section
set_option Elab.async false
set_option linter.all false
set_option maxRecDepth 100000
set_option maxHeartbeats 0
namespace Rw
open PySem Rw.Pr
end Rw
end
section
set_option Elab.async false
set_option linter.all false
set_option maxRecDepth 100000
set_option maxHeartbeats 0
namespace Rw
open PySem Rw.Pr
section
variable {F : Nat → Option Fn} {k : Nat} {M : Ar} {rs : List RowS} {lg : List Nat} {g : Ar} {ps : List Int} {e : Int} {W : List Nat → Int} {al : List (List Nat × Int)}
abbrev eW (n : Nat) (r : RowS) (x3 x4 : Option D) : En := [some (.ref 0), some (.t (.int n)), some (rD r), x3, x4, none]
end
end Rw
end
section
set_option Elab.async false
set_option linter.all false
set_option maxRecDepth 100000
set_option maxHeartbeats 0
namespace Rw
open PySem Rw.Pr
theorem nat_len : ∀ (N : Nat) (l : List Nat), l.Nodup → (∀ x ∈ l, x < N) → l.length ≤ N
  | 0, l, _, h => by
    cases l with
    | nil => exact Nat.le_refl _
    | cons a l => exact absurd (h a List.mem_cons_self) (by omega)
  | N + 1, l, hn, h => by
    have := nat_len N (l.erase N) (hn.erase N) (fun x hx => by
      have h1 := h x (List.mem_of_mem_erase hx)
      have h2 : x ≠ N := fun e => by
        rw [e] at hx
        exact absurd hx (hn.not_mem_erase)
      omega)
    have h3 := List.length_erase (a := N) (l := l)
    split at h3 <;> omega
end Rw
end
section
set_option Elab.async false
set_option linter.all false
set_option maxRecDepth 100000
set_option maxHeartbeats 0
namespace Rw
open PySem Rw.Pr
section
variable {F : Nat → Option Fn} {k : Nat} {M : Ar} {rs : List RowS} {lg : List Nat} {g : Ar} {ps : List Int} {e : Int} {ws : T} {ls : List (List Int)} {f : List D}
abbrev lE (N : Nat) (t : D) (x3 x4 x5 : Option D) : En := [some t, some (.ref 0), some (.ref N), x3, x4, x5]
end
end Rw
end
section
set_option Elab.async false
set_option linter.all false
set_option maxRecDepth 100000
set_option maxHeartbeats 0
namespace Rw
open PySem Rw.Pr
end Rw
end
section
set_option Elab.async false
set_option linter.all false
set_option maxRecDepth 100000
set_option maxHeartbeats 0
namespace Rw
open PySem Rw.Pr
/-- what a word begins: the op, its boxes, how many words more, the short number -/
def kd (w : Nat) : Option (String × List Int × Int × Option Int) :=
  if 144 ≤ w ∧ w < 176 then some ("take", [((w : Int) - 144) / 8], 0, some (((w : Int) - 144) % 8)) else
  if w < 1 then some ("stop", [], 0, none) else
  if w < 2 then some ("back", [], 0, none) else
  if w < 4 then none else
  if w < 8 then some ("say", [(w : Int) - 4], 0, none) else
  if w < 16 then none else
  if w < 20 then some ("take!", [(w : Int) - 16], 1, none) else
  if w < 32 then none else
  if w < 48 then some ("move", [((w : Int) - 32) / 4, ((w : Int) - 32) % 4], 0, none) else
  if w < 64 then some ("add", [((w : Int) - 48) / 4, ((w : Int) - 48) % 4], 0, none) else
  if w < 80 then some ("less", [((w : Int) - 64) / 4, ((w : Int) - 64) % 4], 0, none) else
  if w < 84 then some ("load", [(w : Int) - 80], 1, none) else
  if w < 88 then some ("store", [(w : Int) - 84], 1, none) else
  if w < 96 then none else
  if w < 97 then some ("jump", [], 1, none) else
  if w < 98 then some ("call", [], 1, none) else
  if w < 99 then none else
  if w < 100 then some ("skip", [], 1, none) else
  if w < 104 then some ("zero", [(w : Int) - 100], 1, none) else
  if w < 112 then none else
  if w < 128 then some ("same", [((w : Int) - 112) / 4, ((w : Int) - 112) % 4], 1, none) else
  if w < 129 then some ("copy", [], 2, none) else none
def shT : Option Int → T
  | none => .non
  | some n => .int n
def kT : Option (String × List Int × Int × Option Int) → T
  | none => .non
  | some (op, bx, more, sh) => .tup [.str (Str.ofString op), tl bx, .int more, shT sh]
section
variable {F : Nat → Option Fn} {k : Nat}
structure CodF (F : Nat → Option Fn) : Prop where
  h0 : F 0 = some f_is_number
  h1 : F 1 = some f_need_words
  h3 : F 3 = some f_kind_of
  h4 : F 4 = some f_row_at
  h5 : F 5 = some f_signed
  h6 : F 6 = some f_goals_of
theorem kind_all (G : Cal) : ((List.range 256).all fun w => okT (fnV G f_kind_of [.t (.int (Int.ofNat w))] []) (kT (kd w))) = true := by kernel_rfl
theorem kind_ok (H : CodF F) {w : Int} (h0 : 0 ≤ w) (h1 : w < 256) : run F (k + 1) 3 [.t (.int w)] [] = .ok (.t (kT (kd w.toNat))) [] := by
  rw [run_at H.h3]
  have := List.all_eq_true.mp (kind_all (run F k)) w.toNat (List.mem_range.mpr (by omega))
  have e : Int.ofNat w.toNat = w := Int.toNat_of_nonneg h0
  rw [e] at this
  exact okT_ok this
abbrev Row : Type := String × List Int × List Int × Int
def shL (ws : List Int) (p more : Int) : Option Int → List Int
  | none => cut ws (some (p + 1)) (some (p + 1 + more))
  | some n => [n]
def rowF (ws : List Int) (p : Int) : Option Row := if 0 ≤ p ∧ p < ws.length then (match kd (ws.getD p.toNat 0).toNat with
    | none => none
    | some (op, bx, more, sh) => if p + 1 + more > ws.length then none else some (op, bx, shL ws p more sh, 1 + more)) else none
def rT : Option Row → T
  | none => .non
  | some (op, bx, nums, many) => .tup [.str (Str.ofString op), tl bx, tl nums, .int many]
def Ws (ws : List Int) : Prop := ∀ w ∈ ws, 0 ≤ w ∧ w < 256
theorem Ws.get {ws : List Int} (h : Ws ws) {i : Nat} (hi : i < ws.length) : 0 ≤ ws.getD i 0 ∧ ws.getD i 0 < 256 := by
  rw [List.getD_eq_getElem?_getD, List.getElem?_eq_getElem hi]
  exact h _ (List.getElem_mem hi)
theorem len_tl {M : Ar} (ws : List Int) : lenV (.t (tl ws)) M = .ok (.t (.int ws.length)) M := by
  show Res.ok (D.t (T.int (((ws.map T.int).map D.t).length : Nat))) M = _
  rw [List.length_map, List.length_map]
theorem idx_tlI {M : Ar} {ws : List Int} {p : Int} (h0 : 0 ≤ p) (h1 : p < ws.length) : idxV (.t (tl ws)) (.t (.int p)) M = .ok (.t (.int (ws.getD p.toNat 0))) M := by
  have : idxQ (.t (tl ws)) (.t (.int p)) M = .ok (.t (.int (ws.getD p.toNat 0))) M := by simp only [idxQ, sqOf, lsOf_tl, atI_il h0 h1]
  exact this
theorem slc_tl {M : Ar} {ws : List Int} {lo hi : Option Int} : slcV false (.t (tl ws)) lo hi M = .ok (.t (tl (cut ws lo hi))) M := by
  unfold tl
  rw [slc_t]
  congr 3
  simp [cut, List.map_drop, List.map_take]
theorem list_tl {M : Ar} {ws : List Int} : biV (.list false) [.t (tl ws)] M = .ok (.t (tl ws)) M := by
  show Res.ok (frzL ((ws.map T.int).map D.t)) M = _
  rw [frzL_map]
  rfl
theorem len_bi {M : Ar} (ws : List Int) : biV .len [.t (tl ws)] M = .ok (.t (.int ws.length)) M := len_tl ws
theorem row_ok (H : CodF F) {ws : List Int} {p : Int} (hw : Ws ws) : run F (k + 2) 4 [.t (tl ws), .t (.int p)] [] = .ok (.t (rT (rowF ws p))) [] := by
  rw [run_at H.h4]
  by_cases hp : 0 ≤ p ∧ p < ws.length
  · obtain ⟨h0, h1⟩ := hp
    obtain ⟨w0, w1⟩ := hw.get (i := p.toNat) (by omega)
    have hat := fun M => idx_tlI (M := M) h0 h1
    unfold rowF
    rw [if_pos ⟨h0, h1⟩]
    generalize ws.getD p.toNat 0 = w at w0 w1 hat ⊢
    have hk := fun M => callV_clean (G := run F (k + 1)) (f := 3) (ds := [.t (.int w)]) (ts := [.int w]) (M := M) rfl (kind_ok (k := k) H w0 w1) (snap_t _ _ _)
    cases q : kd w.toNat with
    | none =>
      rw [q] at hk
      simp_arith [f_row_at, h0, h1, len_bi, hat, hk, kT, rT, -biV, -idxV]
    | some z =>
      obtain ⟨op, bx, more, sh⟩ := z
      rw [q] at hk
      simp only [kT] at hk
      have i2 : ∀ M, idxV (.t (.tup [.str (Str.ofString op), tl bx, .int more, shT sh])) (.t (.int 2)) M = .ok (.t (.int more)) M := fun M => rfl
      by_cases hm : p + 1 + more > ws.length
      · have hm' : (ws.length : Int) < p + 1 + more := hm
        simp_arith [f_row_at, h0, h1, len_bi, hat, hk, i2, rT, hm', -biV, -idxV]
      · have hm' : ¬ (ws.length : Int) < p + 1 + more := hm
        cases sh with
        | none =>
          simp only [shT] at hk i2
          simp_arith [f_row_at, h0, h1, len_bi, list_tl, slc_tl, hat, hk, i2, rT, hm', shL, -biV, -idxV]
        | some n =>
          simp only [shT] at hk i2
          simp_arith [f_row_at, h0, h1, len_bi, list_tl, slc_tl, hat, hk, i2, rT, hm', shL, tl1, -biV, -idxV]
  · unfold rowF
    rw [if_neg hp]
    by_cases h0 : 0 ≤ p
    · have h1 : ¬ p < ws.length := fun z => hp ⟨h0, z⟩
      simp_arith [f_row_at, h0, h1, len_bi, rT, -biV]
    · simp_arith [f_row_at, h0, rT, len_bi, -biV]
end
inductive Op where
  | take (b n : Int) | takeB (b n : Int) | stop | back | say (b : Int) | move (b c : Int) | add (b c : Int) | less (b c : Int) | load (b n : Int) | store (b n : Int)
  | jump (n : Int) | call (n : Int) | skip (n : Int) | zero (b n : Int) | same (b c n : Int) | copy (n m : Int)
def Op.row : Op → Row
  | .take b n => ("take", [b], [n], 1)
  | .takeB b n => ("take!", [b], [n], 2)
  | .stop => ("stop", [], [], 1)
  | .back => ("back", [], [], 1)
  | .say b => ("say", [b], [], 1)
  | .move b c => ("move", [b, c], [], 1)
  | .add b c => ("add", [b, c], [], 1)
  | .less b c => ("less", [b, c], [], 1)
  | .load b n => ("load", [b], [n], 2)
  | .store b n => ("store", [b], [n], 2)
  | .jump n => ("jump", [], [n], 2)
  | .call n => ("call", [], [n], 2)
  | .skip n => ("skip", [], [n], 2)
  | .zero b n => ("zero", [b], [n], 2)
  | .same b c n => ("same", [b, c], [n], 2)
  | .copy n m => ("copy", [], [n, m], 3)
def bo (b : Int) : Prop := 0 ≤ b ∧ b < 4
def no (n : Int) : Prop := 0 ≤ n ∧ n < 256
def Op.good : Op → Prop
  | .take b n => bo b ∧ no n
  | .takeB b n => bo b ∧ no n
  | .stop => True
  | .back => True
  | .say b => bo b
  | .move b c => bo b ∧ bo c
  | .add b c => bo b ∧ bo c
  | .less b c => bo b ∧ bo c
  | .load b n => bo b ∧ no n
  | .store b n => bo b ∧ no n
  | .jump n => no n
  | .call n => no n
  | .skip n => no n
  | .zero b n => bo b ∧ no n
  | .same b c n => bo b ∧ bo c ∧ no n
  | .copy n m => no n ∧ no m
theorem cutN {ws : List Int} {p : Int} {m : Nat} (h0 : 0 ≤ p) (h1 : p + 1 + m ≤ ws.length) : cut ws (some (p + 1)) (some (p + 1 + m)) = (ws.drop (p + 1).toNat).take m := by
  have e1 : HT.sIx ws.length 0 (some (p + 1)) = (p + 1).toNat := by
    show (if p + 1 < 0 then _ else min (p + 1).toNat ws.length) = _
    rw [if_neg (by omega)]; omega
  have e2 : HT.sIx ws.length ws.length (some (p + 1 + m)) = (p + 1).toNat + m := by
    show (if p + 1 + m < 0 then _ else min (p + 1 + m).toNat ws.length) = _
    rw [if_neg (by omega)]; omega
  unfold cut
  rw [e1, e2, Nat.add_sub_cancel_left]
theorem cut0 {ws : List Int} {p : Int} (h0 : 0 ≤ p) (h1 : p + 1 + 0 ≤ ws.length) : cut ws (some (p + 1)) (some (p + 1 + 0)) = [] := by
  have := cutN (m := 0) h0 h1
  simpa using this
theorem cut1 {ws : List Int} {p : Int} (hw : Ws ws) (h0 : 0 ≤ p) (h1 : p + 1 + 1 ≤ ws.length) : ∃ n, cut ws (some (p + 1)) (some (p + 1 + 1)) = [n] ∧ no n := by
  have e := cutN (m := 1) h0 h1
  have hl : (p + 1).toNat < ws.length := by omega
  refine ⟨ws[(p + 1).toNat], ?_, hw _ (List.getElem_mem hl)⟩
  rw [show (p + 1 + 1) = p + 1 + ((1 : Nat) : Int) from rfl, e, List.drop_eq_getElem_cons hl]
  rfl
theorem cut2 {ws : List Int} {p : Int} (hw : Ws ws) (h0 : 0 ≤ p) (h1 : p + 1 + 2 ≤ ws.length) : ∃ n m, cut ws (some (p + 1)) (some (p + 1 + 2)) = [n, m] ∧ no n ∧ no m := by
  have e := cutN (m := 2) h0 h1
  have hl : (p + 1).toNat < ws.length := by omega
  have hl2 : (p + 1).toNat + 1 < ws.length := by omega
  refine ⟨ws[(p + 1).toNat], ws[(p + 1).toNat + 1], ?_, hw _ (List.getElem_mem hl), hw _ (List.getElem_mem hl2)⟩
  rw [show (p + 1 + 2) = p + 1 + ((2 : Nat) : Int) from rfl, e, List.drop_eq_getElem_cons hl, List.drop_eq_getElem_cons hl2]
  rfl
theorem row_op {ws : List Int} {p : Int} {r : Row} (hw : Ws ws) (h : rowF ws p = some r) : ∃ o : Op, o.good ∧ r = o.row := by
  unfold rowF at h
  by_cases hp : 0 ≤ p ∧ p < ws.length
  · rw [if_pos hp] at h
    obtain ⟨h0, h1⟩ := hp
    obtain ⟨w0, w1⟩ := hw.get (i := p.toNat) (by omega)
    generalize ws.getD p.toNat 0 = w at w0 w1 h
    have key : ∀ op bx more sh, kd w.toNat = some (op, bx, more, sh) → ¬ p + 1 + more > ws.length → r = (op, bx, shL ws p more sh, 1 + more) → ∃ o : Op, o.good ∧ r = o.row := by
      intro op bx more sh hk hm hr
      have ew : ((w.toNat : Nat) : Int) = w := Int.toNat_of_nonneg w0
      unfold kd at hk
      rw [ew] at hk
      generalize w.toNat = v at hk ew
      by_cases c0 : 144 ≤ v ∧ v < 176
      · rw [if_pos c0] at hk; cases hk
        exact ⟨.take ((w - 144) / 8) ((w - 144) % 8), ⟨⟨by omega, by omega⟩, ⟨by omega, by omega⟩⟩, hr⟩
      rw [if_neg c0] at hk
      by_cases c1 : v < 1
      · rw [if_pos c1] at hk; cases hk
        exact ⟨.stop, trivial, by rw [hr]; show (_, _, cut _ _ _, _) = _; rw [cut0 h0 (by omega)]; rfl⟩
      rw [if_neg c1] at hk
      by_cases c2 : v < 2
      · rw [if_pos c2] at hk; cases hk
        exact ⟨.back, trivial, by rw [hr]; show (_, _, cut _ _ _, _) = _; rw [cut0 h0 (by omega)]; rfl⟩
      rw [if_neg c2] at hk
      by_cases c3 : v < 4
      · rw [if_pos c3] at hk; cases hk
      rw [if_neg c3] at hk
      by_cases c4 : v < 8
      · rw [if_pos c4] at hk; cases hk
        exact ⟨.say (w - 4), ⟨by omega, by omega⟩, by rw [hr]; show (_, _, cut _ _ _, _) = _; rw [cut0 h0 (by omega)]; rfl⟩
      rw [if_neg c4] at hk
      by_cases c5 : v < 16
      · rw [if_pos c5] at hk; cases hk
      rw [if_neg c5] at hk
      by_cases c6 : v < 20
      · rw [if_pos c6] at hk; cases hk
        obtain ⟨n, e, hn⟩ := cut1 hw h0 (by omega)
        exact ⟨.takeB (w - 16) n, ⟨⟨by omega, by omega⟩, hn⟩, by rw [hr]; show (_, _, cut _ _ _, _) = _; rw [e]; rfl⟩
      rw [if_neg c6] at hk
      by_cases c7 : v < 32
      · rw [if_pos c7] at hk; cases hk
      rw [if_neg c7] at hk
      by_cases c8 : v < 48
      · rw [if_pos c8] at hk; cases hk
        exact ⟨.move ((w - 32) / 4) ((w - 32) % 4), ⟨⟨by omega, by omega⟩, ⟨by omega, by omega⟩⟩, by rw [hr]; show (_, _, cut _ _ _, _) = _; rw [cut0 h0 (by omega)]; rfl⟩
      rw [if_neg c8] at hk
      by_cases c9 : v < 64
      · rw [if_pos c9] at hk; cases hk
        exact ⟨.add ((w - 48) / 4) ((w - 48) % 4), ⟨⟨by omega, by omega⟩, ⟨by omega, by omega⟩⟩, by rw [hr]; show (_, _, cut _ _ _, _) = _; rw [cut0 h0 (by omega)]; rfl⟩
      rw [if_neg c9] at hk
      by_cases c10 : v < 80
      · rw [if_pos c10] at hk; cases hk
        exact ⟨.less ((w - 64) / 4) ((w - 64) % 4), ⟨⟨by omega, by omega⟩, ⟨by omega, by omega⟩⟩, by rw [hr]; show (_, _, cut _ _ _, _) = _; rw [cut0 h0 (by omega)]; rfl⟩
      rw [if_neg c10] at hk
      by_cases c11 : v < 84
      · rw [if_pos c11] at hk; cases hk
        obtain ⟨n, e, hn⟩ := cut1 hw h0 (by omega)
        exact ⟨.load (w - 80) n, ⟨⟨by omega, by omega⟩, hn⟩, by rw [hr]; show (_, _, cut _ _ _, _) = _; rw [e]; rfl⟩
      rw [if_neg c11] at hk
      by_cases c12 : v < 88
      · rw [if_pos c12] at hk; cases hk
        obtain ⟨n, e, hn⟩ := cut1 hw h0 (by omega)
        exact ⟨.store (w - 84) n, ⟨⟨by omega, by omega⟩, hn⟩, by rw [hr]; show (_, _, cut _ _ _, _) = _; rw [e]; rfl⟩
      rw [if_neg c12] at hk
      by_cases c13 : v < 96
      · rw [if_pos c13] at hk; cases hk
      rw [if_neg c13] at hk
      by_cases c14 : v < 97
      · rw [if_pos c14] at hk; cases hk
        obtain ⟨n, e, hn⟩ := cut1 hw h0 (by omega)
        exact ⟨.jump n, hn, by rw [hr]; show (_, _, cut _ _ _, _) = _; rw [e]; rfl⟩
      rw [if_neg c14] at hk
      by_cases c15 : v < 98
      · rw [if_pos c15] at hk; cases hk
        obtain ⟨n, e, hn⟩ := cut1 hw h0 (by omega)
        exact ⟨.call n, hn, by rw [hr]; show (_, _, cut _ _ _, _) = _; rw [e]; rfl⟩
      rw [if_neg c15] at hk
      by_cases c16 : v < 99
      · rw [if_pos c16] at hk; cases hk
      rw [if_neg c16] at hk
      by_cases c17 : v < 100
      · rw [if_pos c17] at hk; cases hk
        obtain ⟨n, e, hn⟩ := cut1 hw h0 (by omega)
        exact ⟨.skip n, hn, by rw [hr]; show (_, _, cut _ _ _, _) = _; rw [e]; rfl⟩
      rw [if_neg c17] at hk
      by_cases c18 : v < 104
      · rw [if_pos c18] at hk; cases hk
        obtain ⟨n, e, hn⟩ := cut1 hw h0 (by omega)
        exact ⟨.zero (w - 100) n, ⟨⟨by omega, by omega⟩, hn⟩, by rw [hr]; show (_, _, cut _ _ _, _) = _; rw [e]; rfl⟩
      rw [if_neg c18] at hk
      by_cases c19 : v < 112
      · rw [if_pos c19] at hk; cases hk
      rw [if_neg c19] at hk
      by_cases c20 : v < 128
      · rw [if_pos c20] at hk; cases hk
        obtain ⟨n, e, hn⟩ := cut1 hw h0 (by omega)
        exact ⟨.same ((w - 112) / 4) ((w - 112) % 4) n, ⟨⟨by omega, by omega⟩, ⟨by omega, by omega⟩, hn⟩, by rw [hr]; show (_, _, cut _ _ _, _) = _; rw [e]; rfl⟩
      rw [if_neg c20] at hk
      by_cases c21 : v < 129
      · rw [if_pos c21] at hk; cases hk
        obtain ⟨n, m, e, hn, hm⟩ := cut2 hw h0 (by omega)
        exact ⟨.copy n m, ⟨hn, hm⟩, by rw [hr]; show (_, _, cut _ _ _, _) = _; rw [e]; rfl⟩
      rw [if_neg c21] at hk
      cases hk
    cases q : kd w.toNat with
    | none => rw [q] at h; cases h
    | some z =>
      obtain ⟨op, bx, more, sh⟩ := z
      rw [q] at h
      by_cases hm : p + 1 + more > ws.length
      · simp only [if_pos hm] at h; cases h
      · simp only [if_neg hm] at h; exact key op bx more sh q hm (Option.some.inj h).symm
  · rw [if_neg hp] at h; cases h
section
variable {F : Nat → Option Fn} {k : Nat}
theorem signed_ok (H : CodF F) {n : Int} : run F (k + 1) 5 [.t (.int n)] [] = .ok (.t (.int (if n ≥ 128 then n - 256 else n))) [] := by
  rw [run_at H.h5]
  by_cases h : n ≥ 128
  · have h' : (128 : Int) ≤ n := h
    simp_arith [f_signed, h']
  · have h' : ¬ (128 : Int) ≤ n := h
    simp_arith [f_signed, h']
def goalsF (p : Int) : Op → List Int × Bool
  | .stop => ([], false)
  | .back => ([], false)
  | .jump n => ([n], false)
  | .skip n => ([p + 2 + (if n ≥ 128 then n - 256 else n)], false)
  | .call n => ([n], true)
  | .zero _ n => ([n], true)
  | .same _ _ n => ([n], true)
  | _ => ([], true)
theorem goals_ok (H : CodF F) {p : Int} (o : Op) : run F (k + 2) 6 [.t (.int p), .t (rT (some o.row))] [] = .ok (.t (.tup [tl (goalsF p o).1, .bl (goalsF p o).2])) [] := by
  rw [run_at H.h6]
  have c := fun n M => callV_clean (G := run F (k + 1)) (f := 5) (ds := [.t (.int n)]) (ts := [.int n]) (M := M) rfl (signed_ok (k := k) H (n := n)) (snap_t _ _ _)
  cases o <;> simp_arith! [f_goals_of, rT, Op.row, goalsF, c, tl0, tl1, -ge_iff_le]
theorem isnum_ok (H : CodF F) {w a b : Int} : run F (k + 1) 0 [.t (.int w), .t (.int a), .t (.int b)] [] = .ok (.t (.bl (decide (a ≤ w) && decide (w ≤ b)))) [] := by
  rw [run_at H.h0]
  by_cases h1 : a ≤ w <;> by_cases h2 : w ≤ b <;> simp_arith [f_is_number, isV, tyD, tyT, isTy, h1, h2]
end
end Rw
end
section
set_option Elab.async false
set_option linter.all false
set_option maxRecDepth 100000
set_option maxHeartbeats 0
namespace Rw
open PySem Rw.Pr
section
variable {F : Nat → Option Fn} {k : Nat} {M : Ar}
theorem enuL_il (n : Nat) (w : Int) (ws : List Int) : enuL n (il (w :: ws)) = D.t (.tup [.int n, .int w]) :: enuL (n + 1) (il ws) := rfl
theorem enu_tl {ws : List Int} : srEnu (.t (tl ws)) M = .ok (.fix (enuL 0 (il ws))) M := by
  show Res.ok (Itm.fix (enuL 0 ((ws.map T.int).map D.t))) M = _
  rw [List.map_map]
  rfl
theorem need_loop (H : CodF F) {t : D} : ∀ (ws : List Int) (n : Nat) (x y : Option D), Ws ws → n + ws.length ≤ 256 → ∃ x' y', forF (forBody (run F (k + 1)) (.tup [(.var 1), (.var 2)]) f_need_words_B0) (enuL n (il ws)) [some t, x, y] [] = .ok (.nx [some t, x', y']) []
  | [], n, x, y, _, _ => ⟨x, y, rfl⟩
  | w :: ws, n, x, y, hw, hl => by
    rw [List.length_cons] at hl
    obtain ⟨w0, w1⟩ := hw w List.mem_cons_self
    have h1 : ¬ ((n : Int) = 256) := by omega
    have h2 : w ≤ 255 := by omega
    have c := fun M => callV_clean (G := run F (k + 1)) (f := 0) (ds := [.t (.int w), .t (.int 0), .t (.int 255)]) (ts := [.int w, .int 0, .int 255]) (M := M) rfl (isnum_ok (k := k) H) (snap_t _ _ _)
    have e : forBody (run F (k + 1)) (.tup [(.var 1), (.var 2)]) f_need_words_B0 (.t (.tup [.int n, .int w])) [some t, x, y] [] = .ok (.nx [some t, some (.t (.int n)), some (.t (.int w))]) [] := by
      simp_arith [forBody, f_need_words_B0, h1, c, w0, h2]
    obtain ⟨x', y', e2⟩ := need_loop H ws (n + 1) (some (.t (.int n))) (some (.t (.int w))) (fun w hw' => hw w (List.mem_cons_of_mem _ hw')) (by omega)
    exact ⟨x', y', by rw [enuL_il, forF_cons e, e2]⟩
theorem need_words_call (H : CodF F) {ws : List Int} (hw : Ws ws) (hl : ws.length ≤ 256) : callV (run F (k + 2)) .clean 1 [.t (tl ws)] M = .ok (.t .non) M := by
  obtain ⟨x, y, e⟩ := need_loop (k := k) H (t := .t (tl ws)) ws 0 none none hw (by omega)
  have e2 : evS (run F (k + 1)) f_need_words_L0 [some (.t (tl ws)), none, none] [] = .ok (.nx [some (.t (tl ws)), x, y]) [] := evS_for _ (by simp_arith [enu_tl]) e
  refine callV_clean (ts := [tl ws]) (M1 := []) (d := .t .non) rfl ?_ (snap_t _ _ _)
  show run F (k + 2) 1 [.t (tl ws)] [] = _
  rw [run_at H.h1]
  simp_arith [f_need_words, e2]
theorem begins_loop (H : CodF F) {t : D} : ∀ (ws : List Int) (n : Nat) (x y : Option D), Ws ws → n + ws.length ≤ 16 → ∃ x' y', forF (forBody (run F (k + 1)) (.tup [(.var 1), (.var 2)]) f_need_begins_B0) (enuL n (il ws)) [some t, x, y] [] = .ok (.nx [some t, x', y']) []
  | [], n, x, y, _, _ => ⟨x, y, rfl⟩
  | w :: ws, n, x, y, hw, hl => by
    rw [List.length_cons] at hl
    obtain ⟨w0, w1⟩ := hw w List.mem_cons_self
    have h1 : ¬ ((n : Int) = 16) := by omega
    have h2 : w ≤ 255 := by omega
    have c := fun M => callV_clean (G := run F (k + 1)) (f := 0) (ds := [.t (.int w), .t (.int 0), .t (.int 255)]) (ts := [.int w, .int 0, .int 255]) (M := M) rfl (isnum_ok (k := k) H) (snap_t _ _ _)
    have e : forBody (run F (k + 1)) (.tup [(.var 1), (.var 2)]) f_need_begins_B0 (.t (.tup [.int n, .int w])) [some t, x, y] [] = .ok (.nx [some t, some (.t (.int n)), some (.t (.int w))]) [] := by
      simp_arith [forBody, f_need_begins_B0, h1, c, w0, h2]
    obtain ⟨x', y', e2⟩ := begins_loop H ws (n + 1) (some (.t (.int n))) (some (.t (.int w))) (fun w hw' => hw w (List.mem_cons_of_mem _ hw')) (by omega)
    exact ⟨x', y', by rw [enuL_il, forF_cons e, e2]⟩
theorem need_begins_call (H : CodF F) (hf : F 69 = some f_need_begins) {ws : List Int} (hw : Ws ws) (hl : ws.length ≤ 16) : callV (run F (k + 2)) .clean 69 [.t (tl ws)] M = .ok (.t .non) M := by
  obtain ⟨x, y, e⟩ := begins_loop (k := k) H (t := .t (tl ws)) ws 0 none none hw (by omega)
  have e2 : evS (run F (k + 1)) f_need_begins_L0 [some (.t (tl ws)), none, none] [] = .ok (.nx [some (.t (tl ws)), x, y]) [] := evS_for _ (by simp_arith [enu_tl]) e
  refine callV_clean (ts := [tl ws]) (M1 := []) (d := .t .non) rfl ?_ (snap_t _ _ _)
  show run F (k + 2) 69 [.t (tl ws)] [] = _
  rw [run_at hf]
  simp_arith [f_need_begins, e2]
structure Tr where
  rows : List (Int × Row)
  inner : List (Int × Int)
  apart : List (Int × Int)
def dkZ {α : Type} (g : α → D) (l : List (Int × α)) : List (L2.Key × D) := l.map fun q => (.inl q.1, g q.2)
def rwD (r : Row) : D := .t (rT (some r))
abbrev pD (q : Int × Int) : D := .t (.tup [.int q.1, .int q.2])
/-- a trace, and what lies behind it in the arena -/
def TA (ws : List Int) (t : Tr) (X : Ar) : Ar := .obj 1 [("words", .t (tl ws)), ("rows", .ref 1), ("inner", .ref 2), ("apart", .ref 3)] :: .dK (dkZ rwD t.rows) :: .dK (dkZ iD t.inner) :: .lst (t.apart.map pD) :: X
theorem dkZ_len {α : Type} {g : α → D} (l : List (Int × α)) : (dkZ g l).length = l.length := by simp [dkZ]
theorem valD_dkZ {α : Type} {g : α → D} (i : Int) : ∀ l : List (Int × α), valD (dkZ g l) (.inl i) = (l.lookup i).map g
  | [] => rfl
  | (u, a) :: l => by
    have ih := valD_dkZ (g := g) i l
    unfold valD dkZ at ih ⊢
    rw [List.map_cons, List.find?_cons]
    by_cases h : u = i
    · subst h
      simp [List.lookup]
    · have h1 : ¬ ((Sum.inl u : L2.Key) = .inl i) := fun e => h (Sum.inl.inj e)
      have h2 : (i == u) = false := by simpa using fun e => h e.symm
      simp only [decide_eq_false h1, List.lookup, h2]
      exact ih
theorem lookZ {α : Type} {i : Int} : ∀ {l : List (Int × α)}, (l.lookup i).isSome = decide (i ∈ l.map (·.1))
  | [] => by simp
  | (u, a) :: l => by
    rw [List.lookup_cons]
    by_cases h : i = u
    · subst h
      simp
    · have h2 : (i == u) = false := by simpa using h
      rw [h2]
      show (l.lookup i).isSome = _
      rw [lookZ]
      exact decide_eq_decide.mpr (by simp [h])
theorem putZ {α : Type} {g : α → D} {i : Int} {a : α} {l : List (Int × α)} (h : i ∉ l.map (·.1)) : putKD (dkZ g l) (.inl i) (g a) = dkZ g (l ++ [(i, a)]) := by
  unfold putKD
  rw [if_neg]
  · unfold dkZ; simp
  · intro e
    rw [List.any_eq_true] at e
    obtain ⟨q, hq, he⟩ := e
    obtain ⟨z, hz, rfl⟩ := List.mem_map.mp hq
    exact h (List.mem_map.mpr ⟨z, hz, Sum.inl.inj (of_decide_eq_true he)⟩)
variable {ws : List Int} {t : Tr} {X : Ar}
theorem ta_words : attrV 1 (.ref 0) "words" (TA ws t X) = .ok (.t (tl ws)) (TA ws t X) := by simp [attrV, fdOf, objOf, TA, List.lookup, beq_ofString]
theorem ta_rows : attrV 1 (.ref 0) "rows" (TA ws t X) = .ok (.ref 1) (TA ws t X) := by simp [attrV, fdOf, objOf, TA, List.lookup, beq_ofString]
theorem ta_inner : attrV 1 (.ref 0) "inner" (TA ws t X) = .ok (.ref 2) (TA ws t X) := by simp [attrV, fdOf, objOf, TA, List.lookup, beq_ofString]
theorem ta_apart : attrV 1 (.ref 0) "apart" (TA ws t X) = .ok (.ref 3) (TA ws t X) := by simp [attrV, fdOf, objOf, TA, List.lookup, beq_ofString]
theorem ta_meth {m : String} (h1 : m ≠ "words") (h2 : m ≠ "rows") (h3 : m ≠ "inner") (h4 : m ≠ "apart") : methB (TA ws t X) 1 m (.ref 0) = true := by simp [methB, TA, objOf, List.lookup, beq_ofString, h1, h2, h3, h4]
theorem ta_in1 {i : Int} {k : Bool → Bool} : inV1 (TA ws t X) (.t (.int i)) (.ref 1) k = .ok (.t (.bl (k (decide (i ∈ t.rows.map (·.1)))))) (TA ws t X) := by
  have v : (valD (dkZ rwD t.rows) (.inl i)).isSome = decide (i ∈ t.rows.map (·.1)) := by rw [valD_dkZ, Option.isSome_map, lookZ]
  have e0 : (TA ws t X)[1]? = some (.dK (dkZ rwD t.rows)) := rfl
  simp only [inV1, stOf, dkOf, e0, keyD, v]
theorem ta_in2 {i : Int} {k : Bool → Bool} : inV1 (TA ws t X) (.t (.int i)) (.ref 2) k = .ok (.t (.bl (k (decide (i ∈ t.inner.map (·.1)))))) (TA ws t X) := by
  have v : (valD (dkZ iD t.inner) (.inl i)).isSome = decide (i ∈ t.inner.map (·.1)) := by rw [valD_dkZ, Option.isSome_map, lookZ]
  have e0 : (TA ws t X)[2]? = some (.dK (dkZ iD t.inner)) := rfl
  simp only [inV1, stOf, dkOf, e0, keyD, v]
theorem ta_app {q : Int × Int} (h : t.apart.length < 10000) : meV .append (.ref 3) [pD q] (TA ws t X) = .ok (.t .non) (TA ws { t with apart := t.apart ++ [q] } X) := by
  have h2 : t.apart.length < 16777216 := by omega
  simp [meV, TA, okIf, line, h2]
theorem ta_isL : isLst (TA ws t X) (.ref 3) = true := by simp [isLst, lsOf, TA]
theorem ta_put {i : Int} {r : Row} (h : i ∉ t.rows.map (·.1)) (hl : t.rows.length < 10000) : subV (.ref 1) (.t (.int i)) (.t (rT (some r))) (TA ws t X) = .ok () (TA ws { t with rows := t.rows ++ [(i, r)] } X) := by
  have p := putZ (g := rwD) (a := r) h
  have e0 : (TA ws t X)[1]? = some (.dK (dkZ rwD t.rows)) := rfl
  simp only [subV, e0, keyD, dkZ_len, line]
  rw [show D.t (rT (some r)) = rwD r from rfl, p, decide_eq_true (show t.rows.length < 16777216 by omega)]
  rfl
theorem ta_putI {i j : Int} (h : i ∉ t.inner.map (·.1)) (hl : t.inner.length < 10000) : subV (.ref 2) (.t (.int i)) (.t (.int j)) (TA ws t X) = .ok () (TA ws { t with inner := t.inner ++ [(i, j)] } X) := by
  have p := putZ (g := iD) (a := j) h
  have e0 : (TA ws t X)[2]? = some (.dK (dkZ iD t.inner)) := rfl
  simp only [subV, e0, keyD, dkZ_len, line]
  rw [show D.t (.int j) = iD j from rfl, p, decide_eq_true (show t.inner.length < 16777216 by omega)]
  rfl
end
end Rw
end
section
set_option Elab.async false
set_option linter.all false
set_option maxRecDepth 100000
set_option maxHeartbeats 0
namespace Rw
open PySem Rw.Pr
/-- how many words a row has behind its first -/
def Op.mn : Op → Nat
  | .take _ _ => 0 | .takeB _ _ => 1 | .stop => 0 | .back => 0 | .say _ => 0 | .move _ _ => 0 | .add _ _ => 0 | .less _ _ => 0 | .load _ _ => 1 | .store _ _ => 1
  | .jump _ => 1 | .call _ => 1 | .skip _ => 1 | .zero _ _ => 1 | .same _ _ _ => 1 | .copy _ _ => 2
theorem Op.mn_eq (o : Op) : o.row.2.2.2 = 1 + (o.mn : Int) := by cases o <;> rfl
def fur (p : Int) (m : Nat) : List Int := (List.range m).map fun (j : Nat) => p + (1 + (j : Int))
structure TraF (F : Nat → Option Fn) : Prop where
  c : CodF F
  h69 : F 69 = some f_need_begins
  h70 : F 70 = some f_Trace___init__
  h71 : F 71 = some f_Trace_come
  h72 : F 72 = some f_Trace_is_over_one
section
variable {F : Nat → Option Fn} {k : Nat} {M : Ar} {ws : List Int} {t : Tr} {X : Ar}
def bsy (t : Tr) (i : Int) : Bool := decide (i ∈ t.rows.map (·.1)) || decide (i ∈ t.inner.map (·.1))
theorem rng1 {m : Nat} (hm : m ≤ 2) : srRng [.t (.int 1), .t (.int (1 + (m : Int)))] M = .ok (.fix ((List.range m).map fun (j : Nat) => D.t (.int (1 + (j : Int))))) M := by
  have : m = 0 ∨ m = 1 ∨ m = 2 := by omega
  rcases this with rfl | rfl | rfl <;> rfl
theorem Op.mn_le (o : Op) : o.mn ≤ 2 := by cases o <;> simp [Op.mn]
theorem row3 (o : Op) : idxV (.t (rT (some o.row))) (.t (.int 3)) M = .ok (.t (.int (1 + (o.mn : Int)))) M := by
  rw [← Op.mn_eq]
  rfl
theorem over_ok (H : TraF F) {p : Int} (o : Op) : run F (k + 1) 72 [.ref 0, .t (.int p), .t (rT (some o.row))] (TA ws t X) = .ok (.t (.bl ((fur p o.mn).any (bsy t)))) (TA ws t X) := by
  rw [run_at H.h72]
  have hm := o.mn_le
  have r3 := fun M => row3 (M := M) o
  have g1 := fun M => rng1 (M := M) hm
  generalize rT (some o.row) = RT at *
  have x1 : cmpF (cmpBody (run F k) (.var 4) none (.bin .add false (.var 1) (.var 4)) [some (.ref 0), some (.t (.int p)), some (.t RT), none, none]) ((List.range o.mn).map fun (j : Nat) => D.t (.int (1 + (j : Int)))) [] (TA ws t X) = .ok ((List.range o.mn).map fun (j : Nat) => D.t (.int (p + (1 + (j : Int))))) (TA ws t X) := by
    refine comp_map (fun j _ => ?_) (by show _ ≤ 16777216; simp; omega)
    rw [xCb]
    simp_arith [wipeE, Tg.slots, noExc]
  have y1 : frzL ((List.range o.mn).map fun (j : Nat) => D.t (.int (p + (1 + (j : Int))))) = .t (tl (fur p o.mn)) := by
    rw [← frzL_il]
    unfold il fur
    rw [List.map_map]
    rfl
  have s1 : ∀ M, srSeq (.t (tl (fur p o.mn))) M = .ok (.fix ((fur p o.mn).map fun i => D.t (.int i))) M := fun M => by
    show Res.ok (Itm.fix (((fur p o.mn).map T.int).map D.t)) M = _
    rw [List.map_map]
    rfl
  have hfl : (fur p o.mn).length ≤ 2 := by unfold fur; simp; exact hm
  generalize fur p o.mn = fs at *
  have x2 : cmpF (cmpBody (run F k) (.var 4) (some (.or [(.cmp .isIn (.var 4) (.attr 1 (.var 0) "rows")), (.cmp .isIn (.var 4) (.attr 1 (.var 0) "inner"))])) (.var 4) [some (.ref 0), some (.t (.int p)), some (.t RT), some (.t (tl fs)), none]) (fs.map fun i => D.t (.int i)) [] (TA ws t X) = .ok ((fs.filter (bsy t)).map fun i => D.t (.int i)) (TA ws t X) := by
    refine (cmpF_filt (h := fun i => D.t (.int i)) (p := bsy t) _ _ (fun i _ => ?_) (by show _ ≤ 16777216; simp; omega)).trans (by rw [List.nil_append])
    have i1 := fun k => ta_in1 (ws := ws) (t := t) (X := X) (i := i) (k := k)
    have i2 := fun k => ta_in2 (ws := ws) (t := t) (X := X) (i := i) (k := k)
    rw [xCb]
    unfold bsy
    by_cases h1 : i ∈ t.rows.map (·.1)
    · simp only [decide_eq_true h1] at i1 ⊢
      simp_arith [wipeE, Tg.slots, noExc, ta_rows, i1]
    · simp only [decide_eq_false h1] at i1 ⊢
      by_cases h2 : i ∈ t.inner.map (·.1)
      · simp only [decide_eq_true h2] at i2 ⊢
        simp_arith [wipeE, Tg.slots, noExc, ta_rows, ta_inner, i1, i2]
      · simp only [decide_eq_false h2] at i2 ⊢
        simp_arith [wipeE, Tg.slots, noExc, ta_rows, ta_inner, i1, i2]
  have y2 : frzL ((fs.filter (bsy t)).map fun i => D.t (.int i)) = .t (.lst ((fs.filter (bsy t)).map T.int)) := by
    rw [← frzL_map, List.map_map]
    rfl
  have q1 : ∀ (M : Ar) k, eqV2 M (.t (.lst ((fs.filter (bsy t)).map T.int))) (.t (.lst [])) k = .ok (.t (.bl (k (!fs.any (bsy t))))) M := fun M k => by
    rw [eq_nil_of, List.isEmpty_map]
    congr 4
    cases ha : fs.any (bsy t) with
    | true =>
      rw [List.any_eq_true] at ha
      obtain ⟨x, hx, hb⟩ := ha
      cases hfi : fs.filter (bsy t) with
      | nil =>
        have : x ∈ fs.filter (bsy t) := List.mem_filter.mpr ⟨hx, hb⟩
        rw [hfi] at this
        nomatch this
      | cons a b => rfl
    | false =>
      have : fs.filter (bsy t) = [] := by
        rw [List.filter_eq_nil_iff]
        intro a ha' hb
        have : fs.any (bsy t) = true := List.any_eq_true.mpr ⟨a, ha', hb⟩
        rw [ha] at this
        cases this
      rw [this]
      rfl
  generalize ((fs.filter (bsy t)).map T.int) = L2' at *
  generalize ((fs.filter (bsy t)).map fun i => D.t (.int i)) = L3 at *
  generalize hany : fs.any (bsy t) = b at *
  cases b <;> simp_arith [f_Trace_is_over_one, f_Trace_is_over_one_C0, f_Trace_is_over_one_C1, r3, g1, x1, y1, s1, x2, y2, q1, -idxV, -frzL, -List.map_map]
end
end Rw
end
section
set_option Elab.async false
set_option linter.all false
set_option maxRecDepth 100000
set_option maxHeartbeats 0
namespace Rw
open PySem Rw.Pr
section
variable {F : Nat → Option Fn} {k : Nat} {M : Ar} {ws : List Int} {t : Tr} {X : Ar} {p s : Int}
theorem row_call (H : TraF F) (hw : Ws ws) : callV (run F (k + 2)) .clean 4 [.t (tl ws), .t (.int p)] M = .ok (.t (rT (rowF ws p))) M := callV_clean (ts := [tl ws, .int p]) rfl (row_ok (k := k) H.c hw) (snap_t _ _ _)
/-- nothing is come to -/
theorem come_out (H : TraF F) (h : ¬ (0 ≤ p ∧ p < ws.length) ∨ p ∈ t.rows.map (·.1)) : run F (k + 1) 71 [.ref 0, .t (.int p), .t (.int s)] (TA ws t X) = .ok (.t (.lst [])) (TA ws t X) := by
  rw [run_at H.h71]
  have i1 := fun k => ta_in1 (ws := ws) (t := t) (X := X) (i := p) (k := k)
  by_cases h0 : 0 ≤ p
  · by_cases h1 : p < ws.length
    · have h2 : p ∈ t.rows.map (·.1) := h.resolve_left (fun z => z ⟨h0, h1⟩)
      simp only [decide_eq_true h2] at i1
      simp_arith [f_Trace_come, ta_words, ta_rows, len_bi, h0, h1, i1, -biV]
    · simp_arith [f_Trace_come, ta_words, len_bi, h0, h1, -biV]
  · simp_arith [f_Trace_come, ta_words, len_bi, h0, -biV]
theorem come_none (H : TraF F) (hw : Ws ws) (h0 : 0 ≤ p) (h1 : p < ws.length) (h2 : p ∉ t.rows.map (·.1)) (h3 : p ∉ t.inner.map (·.1)) (h4 : rowF ws p = none) : run F (k + 3) 71 [.ref 0, .t (.int p), .t (.int s)] (TA ws t X) = .ok (.t (.lst [])) (TA ws t X) := by
  rw [run_at H.h71]
  have i1 := fun k => ta_in1 (ws := ws) (t := t) (X := X) (i := p) (k := k)
  have i2 := fun k => ta_in2 (ws := ws) (t := t) (X := X) (i := p) (k := k)
  have c := fun M => row_call (k := k) (M := M) (p := p) H hw
  simp only [decide_eq_false h2] at i1
  simp only [decide_eq_false h3] at i2
  simp only [h4, rT] at c
  simp_arith [f_Trace_come, ta_words, ta_rows, ta_inner, len_bi, h0, h1, i1, i2, c, -biV]
theorem come_in (H : TraF F) (hw : Ws ws) (h0 : 0 ≤ p) (h1 : p < ws.length) (h2 : p ∉ t.rows.map (·.1)) (h3 : p ∈ t.inner.map (·.1)) (ha : t.apart.length < 10000) : run F (k + 3) 71 [.ref 0, .t (.int p), .t (.int s)] (TA ws t X) = .ok (.t (.lst [])) (TA ws { t with apart := t.apart ++ [(s, p)] } X) := by
  rw [run_at H.h71]
  have i1 := fun k => ta_in1 (ws := ws) (t := t) (X := X) (i := p) (k := k)
  have i2 := fun k => ta_in2 (ws := ws) (t := t) (X := X) (i := p) (k := k)
  have c := fun M => row_call (k := k) (M := M) (p := p) H hw
  have ap := ta_app (ws := ws) (t := t) (X := X) (q := (s, p)) ha
  simp only [decide_eq_false h2] at i1
  simp only [decide_eq_true h3] at i2
  generalize rT (rowF ws p) = RT at *
  simp_arith [f_Trace_come, ta_words, ta_rows, ta_inner, ta_apart, ta_isL, len_bi, h0, h1, i1, i2, c, ap, -biV]
theorem come_over (H : TraF F) (hw : Ws ws) (h0 : 0 ≤ p) (h1 : p < ws.length) (h2 : p ∉ t.rows.map (·.1)) (h3 : p ∉ t.inner.map (·.1)) {o : Op} (h4 : rowF ws p = some o.row) (h5 : (fur p o.mn).any (bsy t) = true) (ha : t.apart.length < 10000) : run F (k + 3) 71 [.ref 0, .t (.int p), .t (.int s)] (TA ws t X) = .ok (.t (.lst [])) (TA ws { t with apart := t.apart ++ [(s, p)] } X) := by
  rw [run_at H.h71]
  have i1 := fun k => ta_in1 (ws := ws) (t := t) (X := X) (i := p) (k := k)
  have i2 := fun k => ta_in2 (ws := ws) (t := t) (X := X) (i := p) (k := k)
  have c := fun M => row_call (k := k) (M := M) (p := p) H hw
  have ap := ta_app (ws := ws) (t := t) (X := X) (q := (s, p)) ha
  have ov := over_ok (k := k + 1) (ws := ws) (t := t) (X := X) (p := p) H o
  have b1 := ta_meth (ws := ws) (t := t) (X := X) (m := "is_over_one") (by decide) (by decide) (by decide) (by decide)
  have nN : isNB false (.t (rT (some o.row))) = true := rfl
  simp only [decide_eq_false h2] at i1
  simp only [decide_eq_false h3] at i2
  simp only [h4] at c
  rw [h5] at ov
  generalize rT (some o.row) = RT at *
  simp_arith [f_Trace_come, ta_words, ta_rows, ta_inner, ta_apart, ta_isL, len_bi, h0, h1, i1, i2, c, ap, ov, b1, nN, -isNB, -biV]
theorem inner_loop {G : Cal} {x2 x3 x5 x6 x7 : Option D} : ∀ (js : List Nat) (t : Tr) (x4 : Option D), (∀ j ∈ js, (p + (1 + (j : Int))) ∉ t.inner.map (·.1)) → js.Nodup → t.inner.length + js.length < 10000 →
    ∃ y4, forF (forBody G (.var 4) f_Trace_come_B0) (js.map fun (j : Nat) => D.t (.int (1 + (j : Int)))) [some (.ref 0), some (.t (.int p)), x2, x3, x4, x5, x6, x7] (TA ws t X) = .ok (.nx [some (.ref 0), some (.t (.int p)), x2, x3, y4, x5, x6, x7]) (TA ws { t with inner := t.inner ++ js.map fun (j : Nat) => (p + (1 + (j : Int)), p) } X)
  | [], t, x4, _, _, _ => ⟨x4, by simp [forF]⟩
  | j :: js, t, x4, h, hn, hl => by
    rw [List.length_cons] at hl
    rw [List.nodup_cons] at hn
    have pt := ta_putI (ws := ws) (t := t) (X := X) (i := p + (1 + (j : Int))) (j := p) (h j List.mem_cons_self) (by omega)
    have e : forBody G (.var 4) f_Trace_come_B0 (.t (.int (1 + (j : Int)))) [some (.ref 0), some (.t (.int p)), x2, x3, x4, x5, x6, x7] (TA ws t X) = .ok (.nx [some (.ref 0), some (.t (.int p)), x2, x3, some (.t (.int (1 + (j : Int)))), x5, x6, x7]) (TA ws { t with inner := t.inner ++ [(p + (1 + (j : Int)), p)] } X) := by
      simp_arith [forBody, f_Trace_come_B0, ta_inner, pt, -subV]
    obtain ⟨y4, e2⟩ := inner_loop js { t with inner := t.inner ++ [(p + (1 + (j : Int)), p)] } (some (.t (.int (1 + (j : Int))))) (fun i hi => by
      simp only [List.map_append, List.mem_append, not_or]
      refine ⟨h i (List.mem_cons_of_mem _ hi), ?_⟩
      simp
      intro z
      have : i = j := by omega
      exact hn.1 (this ▸ hi)) hn.2 (by simp; omega)
    refine ⟨y4, ?_⟩
    rw [List.map_cons, forF_cons e, e2]
    simp
/-- a row that is new -/
def newT (t : Tr) (p : Int) (o : Op) : Tr := { rows := t.rows ++ [(p, o.row)], inner := t.inner ++ (fur p o.mn).map fun i => (i, p), apart := t.apart }
def newG (p : Int) (o : Op) : List (Int × Int) := (goalsF p o).1.map (fun g => (g, p)) ++ (if (goalsF p o).2 then [(p + (1 + (o.mn : Int)), p)] else [])
theorem come_new (H : TraF F) (hw : Ws ws) (h0 : 0 ≤ p) (h1 : p < ws.length) (h2 : p ∉ t.rows.map (·.1)) (h3 : p ∉ t.inner.map (·.1)) {o : Op} (h4 : rowF ws p = some o.row) (h5 : (fur p o.mn).any (bsy t) = false) (hl1 : t.rows.length < 9000) (hl2 : t.inner.length < 9000) : run F (k + 3) 71 [.ref 0, .t (.int p), .t (.int s)] (TA ws t X) = .ok (.t (.lst ((newG p o).map fun q => .tup [.int q.1, .int q.2]))) (TA ws (newT t p o) X) := by
  rw [run_at H.h71]
  have i1 := fun k => ta_in1 (ws := ws) (t := t) (X := X) (i := p) (k := k)
  have i2 := fun k => ta_in2 (ws := ws) (t := t) (X := X) (i := p) (k := k)
  have c := fun M => row_call (k := k) (M := M) (p := p) H hw
  have ov := over_ok (k := k + 1) (ws := ws) (t := t) (X := X) (p := p) H o
  have b1 := ta_meth (ws := ws) (t := t) (X := X) (m := "is_over_one") (by decide) (by decide) (by decide) (by decide)
  have nN : ∀ b, isNB b (.t (rT (some o.row))) = !b := fun b => rfl
  have pr := ta_put (ws := ws) (t := t) (X := X) (i := p) (r := o.row) h2 (by omega)
  have r3 := fun M => row3 (M := M) o
  have hm := o.mn_le
  have g1 := fun M => rng1 (M := M) hm
  obtain ⟨y4, eL⟩ := inner_loop (G := run F (k + 2)) (ws := ws) (X := X) (p := p) (x2 := some (.t (.int s))) (x3 := some (.t (rT (some o.row)))) (x5 := none) (x6 := none) (x7 := none) (List.range o.mn) { t with rows := t.rows ++ [(p, o.row)] } none (fun j hj z => by
    have : (fur p o.mn).any (bsy t) = true := by
      rw [List.any_eq_true]
      refine ⟨p + (1 + (j : Int)), List.mem_map.mpr ⟨j, hj, rfl⟩, ?_⟩
      unfold bsy
      rw [decide_eq_true z, Bool.or_true]
    rw [h5] at this
    cases this) List.nodup_range (by simp; omega)
  have eT : ({ rows := t.rows ++ [(p, o.row)], inner := t.inner ++ (List.range o.mn).map fun (j : Nat) => (p + (1 + (j : Int)), p), apart := t.apart } : Tr) = newT t p o := by
    unfold newT fur
    rw [List.map_map]
    rfl
  simp only at eL
  rw [eT] at eL
  have gc := fun M => callV_clean (G := run F (k + 2)) (f := 6) (ds := [.t (.int p), .t (rT (some o.row))]) (ts := [.int p, rT (some o.row)]) (M := M) rfl (goals_ok (k := k) H.c o) (snap_t _ _ _)
  simp only [decide_eq_false h2] at i1
  simp only [decide_eq_false h3] at i2
  simp only [h4] at c
  rw [h5] at ov
  have eL2 : evS (run F (k + 2)) f_Trace_come_L0 [some (.ref 0), some (.t (.int p)), some (.t (.int s)), some (.t (rT (some o.row))), none, none, none, none] (TA ws { t with rows := t.rows ++ [(p, o.row)] } X) = .ok (.nx [some (.ref 0), some (.t (.int p)), some (.t (.int s)), some (.t (rT (some o.row))), y4, none, none, none]) (TA ws (newT t p o) X) := by
    refine evS_for _ (l := (List.range o.mn).map fun (j : Nat) => D.t (.int (1 + (j : Int)))) (M0 := TA ws { t with rows := t.rows ++ [(p, o.row)] } X) ?_ eL
    generalize rT (some o.row) = RT at *
    simp_arith [r3, g1, -idxV]
  have hgl : (goalsF p o).1.length ≤ 1 := by cases o <;> simp [goalsF]
  have x1 : ∀ x4 x3 x5 x6, cmpF (cmpBody (run F (k + 2)) (.var 7) none (.tuple [(.var 7), (.var 1)]) [some (.ref 0), some (.t (.int p)), some (.t (.int s)), x3, x4, x5, x6, none]) ((goalsF p o).1.map fun g => D.t (.int g)) [] (TA ws (newT t p o) X) = .ok ((goalsF p o).1.map fun g => pD (g, p)) (TA ws (newT t p o) X) := fun x4 x3 x5 x6 => by
    refine comp_map (fun g _ => ?_) (by show _ ≤ 16777216; omega)
    rw [xCb]
    simp_arith [wipeE, Tg.slots, noExc]
  have s1 : ∀ M, srSeq (.t (tl (goalsF p o).1)) M = .ok (.fix ((goalsF p o).1.map fun g => D.t (.int g))) M := fun M => by
    show Res.ok (Itm.fix (((goalsF p o).1.map T.int).map D.t)) M = _
    rw [List.map_map]
    rfl
  unfold newG
  generalize goalsF p o = gf at *
  obtain ⟨gs, on⟩ := gf
  simp only at gc x1 s1 hgl ⊢
  have y1 : frzL (gs.map fun g => pD (g, p)) = .t (.lst (gs.map fun g => T.tup [.int g, .int p])) := by
    rw [← frzL_map, List.map_map]
    rfl
  generalize hE : p + (1 + (o.mn : Int)) = pe at *
  have a1 : ∀ M, binV .add false (.t (.lst (gs.map fun g => T.tup [.int g, .int p]))) (.t (.lst (if on then [T.tup [.int pe, .int p]] else []))) M = .ok (.t (.lst ((gs.map (fun g => (g, p)) ++ (if on then [(pe, p)] else [])).map fun q => T.tup [.int q.1, .int q.2]))) M := fun M => by
    show mkLn false ((gs.map fun g => T.tup [.int g, .int p]).map D.t ++ (if on then [T.tup [.int pe, .int p]] else []).map D.t) M = _
    rw [← List.map_append]
    unfold mkLn
    rw [decide_eq_true (show (((gs.map fun g => T.tup [.int g, .int p]) ++ (if on then [T.tup [.int pe, .int p]] else [])).map D.t).length ≤ line by
      show _ ≤ 16777216
      cases on <;> simp <;> omega)]
    show Res.ok (frzL _) M = _
    rw [frzL_map, List.map_append, List.map_map]
    cases on <;> rfl
  generalize hRT : rT (some o.row) = RT at *
  generalize (gs.map fun g => pD (g, p)) = L1 at *
  generalize (gs.map fun g => T.tup [.int g, .int p]) = L2' at *
  cases on with
  | true =>
    simp only [if_true] at a1 ⊢
    generalize (List.map (fun q : Int × Int => T.tup [.int q.1, .int q.2]) _) = R at a1 ⊢
    have m1 : ∀ M, binV .mul false (.t (.lst [.tup [.int pe, .int p]])) (.t (.int 1)) M = .ok (.t (.lst [.tup [.int pe, .int p]])) M := fun M => rfl
    have bi1 : ∀ M, biV .int [.t (.bl true)] M = .ok (.t (.int 1)) M := fun M => rfl
    have ad : ∀ M, binV .add false (.t (.int p)) (.t (.int (1 + (o.mn : Int)))) M = .ok (.t (.int pe)) M := fun M => by rw [← hE]; rfl
    simp_arith [f_Trace_come, f_Trace_come_C0, ta_words, ta_rows, ta_inner, len_bi, bi1, h0, h1, i1, i2, c, ov, b1, nN, pr, eL2, gc, s1, x1, y1, r3, ad, m1, a1, -binV, -isNB, -biV, -idxV, -subV, -frzL, -List.map_map]
  | false =>
    simp only [Bool.false_eq_true, if_false] at a1 ⊢
    generalize (List.map (fun q : Int × Int => T.tup [.int q.1, .int q.2]) _) = R at a1 ⊢
    have m1 : ∀ M, binV .mul false (.t (.lst [.tup [.int pe, .int p]])) (.t (.int 0)) M = .ok (.t (.lst [])) M := fun M => rfl
    have bi1 : ∀ M, biV .int [.t (.bl false)] M = .ok (.t (.int 0)) M := fun M => rfl
    have ad : ∀ M, binV .add false (.t (.int p)) (.t (.int (1 + (o.mn : Int)))) M = .ok (.t (.int pe)) M := fun M => by rw [← hE]; rfl
    simp_arith [f_Trace_come, f_Trace_come_C0, ta_words, ta_rows, ta_inner, len_bi, bi1, h0, h1, i1, i2, c, ov, b1, nN, pr, eL2, gc, s1, x1, y1, r3, ad, m1, a1, -binV, -isNB, -biV, -idxV, -subV, -frzL, -List.map_map]
end
end Rw
end
section
set_option Elab.async false
set_option linter.all false
set_option maxRecDepth 100000
set_option maxHeartbeats 0
namespace Rw
open PySem Rw.Pr
theorem eq_pair {M : Ar} {q q' : Int × Int} {k : Bool → Bool} : eqV2 M (pD q) (pD q') k = .ok (.t (.bl (k (decide (q = q'))))) M := by
  obtain ⟨a, b⟩ := q
  obtain ⟨c, d⟩ := q'
  show okIf (SeqAt.shaped (.tuple [.int a, .int b]) && SeqAt.shaped (.tuple [.int c, .int d])) (Res.ok (D.t (T.bl (k (PyData.eqv (.tuple [.int a, .int b]) (.tuple [.int c, .int d]))))) M) = _
  rw [show SeqAt.shaped (.tuple [.int a, .int b]) = true from rfl, show SeqAt.shaped (.tuple [.int c, .int d]) = true from rfl]
  show Res.ok (D.t (T.bl (k (PyData.eqv (.tuple [.int a, .int b]) (.tuple [.int c, .int d]))))) M = _
  simp only [PyData.eqv, PyData.eqvAll, Bool.and_true]
  congr 4
  by_cases h1 : a = c <;> by_cases h2 : b = d <;> simp [h1, h2]
theorem best_le (ks : List (List Int)) : ∀ n, bestI ks n ≤ n
  | 0 => Nat.le_refl _
  | n + 1 => by
    unfold bestI
    split
    · exact Nat.le_refl _
    · exact Nat.le_succ_of_le (best_le ks n)
theorem mapO_it (qs : List (Int × Int)) : mapO itOf (qs.map pD) = some (qs.map fun q => [q.1, q.2]) := by
  induction qs with
  | nil => rfl
  | cons q qs ih =>
    rw [List.map_cons]
    have e : itOf (pD q) = some [q.1, q.2] := rfl
    simp only [mapO, e, ih, List.map_cons]
def ltP (u z : Int × Int) : Prop := u.1 < z.1 ∨ (u.1 = z.1 ∧ u.2 < z.2)
theorem lex2 (a b c d : Int) : HT.lexLt [a, b] [c, d] = true ↔ ltP (a, b) (c, d) := by
  unfold ltP
  simp [HT.lexLt]
  split <;> omega
theorem best_min (qs : List (Int × Int)) : ∀ n, n < qs.length → ∀ j, j ≤ n → ¬ ltP (qs.getD j (0, 0)) (qs.getD (bestI (qs.map fun q => [q.1, q.2]) n) (0, 0))
  | 0, h, j, hj => by
    have : j = 0 := by omega
    subst this
    unfold bestI ltP
    omega
  | n + 1, h, j, hj => by
    have ih := best_min qs n (by omega)
    have hb := best_le (qs.map fun q => [q.1, q.2]) n
    have g : ∀ i, i < qs.length → ((qs.map fun q => [q.1, q.2])[i]?).getD [] = [(qs.getD i (0, 0)).1, (qs.getD i (0, 0)).2] := fun i hi => by
      rw [List.getElem?_map, List.getD_eq_getElem?_getD, List.getElem?_eq_getElem hi]
      rfl
    unfold bestI
    rw [g (n + 1) h, g (bestI (qs.map fun q => [q.1, q.2]) n) (by omega)]
    split
    · rename_i hl
      have hl := (lex2 _ _ _ _).mp hl
      by_cases e : j = n + 1
      · subst e
        unfold ltP
        omega
      · have := ih j (by omega)
        intro z
        apply this
        unfold ltP at hl z ⊢
        simp only at hl z ⊢
        omega
    · rename_i hl
      by_cases e : j = n + 1
      · subst e
        exact fun z => hl ((lex2 _ _ _ _).mpr z)
      · exact ih j (by omega)
theorem min_pairs {M : Ar} {i : Nat} {q : Int × Int} {qs : List (Int × Int)} (h : M[i]? = some (.lst ((q :: qs).map pD))) : ∃ z ∈ q :: qs, minV (.ref i) M = .ok (pD z) M ∧ ∀ u ∈ q :: qs, ¬ ltP u z := by
  have hb := best_le ((q :: qs).map fun q => [q.1, q.2]) qs.length
  have hlt : bestI ((q :: qs).map fun q => [q.1, q.2]) qs.length < (q :: qs).length := by rw [List.length_cons]; omega
  refine ⟨(q :: qs)[bestI ((q :: qs).map fun q => [q.1, q.2]) qs.length], List.getElem_mem hlt, ?_, fun u hu => ?_⟩
  rotate_left
  · obtain ⟨j, hj, rfl⟩ := List.getElem_of_mem hu
    have := best_min (q :: qs) qs.length (by simp) j (by rw [List.length_cons] at hj; omega)
    rw [List.getD_eq_getElem?_getD, List.getElem?_eq_getElem hj, List.getD_eq_getElem?_getD, List.getElem?_eq_getElem hlt] at this
    exact this
  have e1 : lsOf M (.ref i) = some ((q :: qs).map pD) := by simp only [lsOf, h]
  have e2 := mapO_it (q :: qs)
  have e3 : ((q :: qs).map pD)[bestI ((q :: qs).map fun q => [q.1, q.2]) qs.length]? = some (pD (q :: qs)[bestI ((q :: qs).map fun q => [q.1, q.2]) qs.length]) := by
    rw [List.getElem?_map, List.getElem?_eq_getElem hlt]
    rfl
  unfold minV
  rw [e1]
  show (match mapO itOf ((q :: qs).map pD) with
    | some ks => (match (q :: qs).map pD with
      | [] => Res.stuck
      | l => (match l[bestI ks (l.length - 1)]? with
        | some d => .ok d M
        | none => .stuck))
    | none => .stuck) = _
  rw [e2]
  show (match ((q :: qs).map pD)[bestI ((q :: qs).map fun q => [q.1, q.2]) (((q :: qs).map pD).length - 1)]? with
    | some d => Res.ok d M
    | none => .stuck) = _
  rw [show ((q :: qs).map pD).length - 1 = qs.length by simp, e3]
/-- a comprehension over a list that no turn changes -/
theorem cmpL_filt {α : Type} {b : D → Ar → Res (Option D)} {g h : α → D} {p : α → Bool} {M : Ar} {i : Nat} {l : List α} (hM : M[i]? = some (.lst (l.map g))) (hb : ∀ x ∈ l, b (g x) M = .ok (if p x then some (h x) else none) M) (hl : l.length < 10000) : ∀ (m j n : Nat) (acc : List D), l.length - j = m → m < n → acc.length ≤ j → j ≤ l.length → cmpL b i n j acc M = .ok (acc ++ ((l.drop j).filter p).map h) M
  | 0, j, n, acc, hm, hn, ha, hj => by
    obtain ⟨n', rfl⟩ : ∃ n', n = n' + 1 := ⟨n - 1, by omega⟩
    have e : (l.map g)[j]? = none := List.getElem?_eq_none (by simp; omega)
    unfold cmpL
    simp only [hM, e]
    rw [List.drop_of_length_le (by omega)]
    simp
  | m + 1, j, n, acc, hm, hn, ha, hj => by
    obtain ⟨n', rfl⟩ : ∃ n', n = n' + 1 := ⟨n - 1, by omega⟩
    have hlt : j < l.length := by omega
    have e : (l.map g)[j]? = some (g l[j]) := by rw [List.getElem?_map, List.getElem?_eq_getElem hlt]; rfl
    have hx := hb l[j] (List.getElem_mem hlt)
    unfold cmpL
    simp only [hM, e, hx]
    rw [List.drop_eq_getElem_cons hlt, List.filter_cons]
    cases hp : p l[j] with
    | true =>
      show okIf (decide (acc.length < line)) (cmpL b i n' (j + 1) (acc ++ [h l[j]]) M) = _
      rw [decide_eq_true (show acc.length < line by show _ < 16777216; omega)]
      show cmpL b i n' (j + 1) (acc ++ [h l[j]]) M = _
      rw [cmpL_filt hM hb hl m (j + 1) n' (acc ++ [h l[j]]) (by omega) (by omega) (by simp; omega) (by omega)]
      simp
    | false =>
      show cmpL b i n' (j + 1) acc M = _
      rw [cmpL_filt hM hb hl m (j + 1) n' acc (by omega) (by omega) (by omega) (by omega)]
      simp
end Rw
end
section
set_option Elab.async false
set_option linter.all false
set_option maxRecDepth 100000
set_option maxHeartbeats 0
namespace Rw
open PySem Rw.Pr
section
variable {F : Nat → Option Fn} {k : Nat} {M : Ar} {ws : List Int} {t t' : Tr} {X Y : Ar}
theorem ta_get (n : Nat) : (TA ws t X)[4 + n]? = X[n]? := by
  rw [Nat.add_comm]
  rfl
theorem ta_set (n : Nat) (v : MO) : (TA ws t X).set (4 + n) v = TA ws t (X.set n v) := by
  rw [Nat.add_comm]
  rfl
theorem ta_len : (TA ws t X).length = 4 + X.length := by
  rw [Nat.add_comm]
  rfl
theorem ta_snoc (v : MO) : TA ws t X ++ [v] = TA ws t (X ++ [v]) := rfl
theorem ta_mk (l : List D) : mkL true l (TA ws t X) = .ok (.ref (4 + X.length)) (TA ws t (X ++ [.lst l])) := by
  show Res.ok (D.ref (TA ws t X).length) (TA ws t X ++ [.lst l]) = _
  rw [ta_len, ta_snoc]
def wE' (w b : D) (i : Nat) (x4 x5 : Option D) : En := [some (.ref 0), some w, some b, some (.ref i), x4, x5, none]
theorem trace_round (H : TraF F) {w b : D} {wl rl : List (Int × Int)} {q : Int × Int} {x4 x5 : Option D} (hne : wl = q :: rl) (hl : wl.length < 9000) (res : Int × Int → List (Int × Int)) (nt : Int × Int → Tr) (hres : ∀ z ∈ wl, (res z).length < 100)
    (hc : ∀ z ∈ wl, ∀ X, run F (k + 3) 71 [.ref 0, .t (.int z.1), .t (.int z.2)] (TA ws t X) = .ok (.t (.lst ((res z).map fun q => .tup [.int q.1, .int q.2]))) (TA ws (nt z) X)) :
    ∃ z ∈ wl, (∀ u ∈ wl, ¬ ltP u z) ∧ ∃ y4 y5 Y', evB (run F (k + 3)) f_Trace___init___B0 (wE' w b (4 + Y.length) x4 x5) (TA ws t (Y ++ [MO.lst (wl.map pD)])) = .ok (.nx (wE' w b (4 + Y'.length) y4 y5)) (TA ws (nt z) (Y' ++ [MO.lst ((wl.filter (fun u => !decide (u = z)) ++ res z).map pD)])) := by
  have g0 : (TA ws t (Y ++ [MO.lst (wl.map pD)]))[4 + Y.length]? = some (.lst (wl.map pD)) := by rw [ta_get]; simp
  have g0' := g0
  rw [hne] at g0'
  obtain ⟨z, hz, hmin, hmm⟩ := min_pairs g0'
  rw [← hne] at hz hmin hmm
  refine ⟨z, hz, hmm, some (.t (.int z.1)), some (.t (.int z.2)), Y ++ [MO.lst (wl.map pD)], ?_⟩
  have m1 : biV .minP [.ref (4 + Y.length)] (TA ws t (Y ++ [MO.lst (wl.map pD)])) = .ok (pD z) (TA ws t (Y ++ [MO.lst (wl.map pD)])) := hmin
  have s1 : srSeq (.ref (4 + Y.length)) (TA ws t (Y ++ [MO.lst (wl.map pD)])) = .ok (.live (4 + Y.length) wl.length) (TA ws t (Y ++ [MO.lst (wl.map pD)])) := by
    simp only [srSeq, g0, List.length_map]
  have x1 : cmpItm (cmpBody (run F (k + 3)) (.var 6) (some (.cmp .ne (.var 6) (.tuple [(.var 4), (.var 5)]))) (.var 6) [some (.ref 0), some w, some b, some (.ref (4 + Y.length)), some (.t (.int z.1)), some (.t (.int z.2)), none]) (.live (4 + Y.length) wl.length) (TA ws t (Y ++ [MO.lst (wl.map pD)])) = .ok ((wl.filter (fun u => !decide (u = z))).map pD) (TA ws t (Y ++ [MO.lst (wl.map pD)])) := by
    show cmpL _ (4 + Y.length) (wl.length + 1) 0 [] _ = _
    rw [cmpL_filt (h := pD) (p := fun u => !decide (u = z)) g0 (fun u _ => ?_) (by omega) wl.length 0 (wl.length + 1) [] (by omega) (by omega) (by simp) (by omega)]
    · simp
    · have q1 := fun M k => eq_pair (M := M) (q := u) (q' := z) (k := k)
      rw [xCb]
      by_cases hu : u = z
      · simp only [decide_eq_true hu] at q1 ⊢
        simp_arith [wipeE, Tg.slots, noExc, q1]
      · simp only [decide_eq_false hu] at q1 ⊢
        simp_arith [wipeE, Tg.slots, noExc, q1]
  have k1 := ta_mk (ws := ws) (t := t) (X := Y ++ [MO.lst (wl.map pD)]) ((wl.filter (fun u => !decide (u = z))).map pD)
  have c1 := hc z hz ((Y ++ [MO.lst (wl.map pD)]) ++ [MO.lst ((wl.filter (fun u => !decide (u = z))).map pD)])
  have b1 := ta_meth (ws := ws) (t := t) (X := (Y ++ [MO.lst (wl.map pD)]) ++ [MO.lst ((wl.filter (fun u => !decide (u = z))).map pD)]) (m := "come") (by decide) (by decide) (by decide) (by decide)
  have g1 : ∀ t, (TA ws t ((Y ++ [MO.lst (wl.map pD)]) ++ [MO.lst ((wl.filter (fun u => !decide (u = z))).map pD)]))[4 + (Y ++ [MO.lst (wl.map pD)]).length]? = some (.lst ((wl.filter (fun u => !decide (u = z))).map pD)) := fun t => by rw [ta_get]; simp
  have l1 : isLst (TA ws t ((Y ++ [MO.lst (wl.map pD)]) ++ [MO.lst ((wl.filter (fun u => !decide (u = z))).map pD)])) (.ref (4 + (Y ++ [MO.lst (wl.map pD)]).length)) = true := by simp only [isLst, lsOf, g1]
  have fl := List.length_filter_le (fun u => !decide (u = z)) wl
  have rl' := hres z hz
  have e1 : meV .extend (.ref (4 + (Y ++ [MO.lst (wl.map pD)]).length)) [.t (.lst ((res z).map fun q => .tup [.int q.1, .int q.2]))] (TA ws (nt z) ((Y ++ [MO.lst (wl.map pD)]) ++ [MO.lst ((wl.filter (fun u => !decide (u = z))).map pD)])) = .ok (.t .non) (TA ws (nt z) ((Y ++ [MO.lst (wl.map pD)]) ++ [MO.lst ((wl.filter (fun u => !decide (u = z)) ++ res z).map pD)])) := by
    simp only [meV, g1, lsOf]
    rw [decide_eq_true (show ((wl.filter (fun u => !decide (u = z))).map pD).length + (((res z).map fun q => T.tup [.int q.1, .int q.2]).map D.t).length ≤ line by
      show _ ≤ 16777216
      simp only [List.length_map]
      omega)]
    show Res.ok (D.t T.non) ((TA ws (nt z) ((Y ++ [MO.lst (wl.map pD)]) ++ [MO.lst ((wl.filter (fun u => !decide (u = z))).map pD)])).set (4 + (Y ++ [MO.lst (wl.map pD)]).length) (.lst ((wl.filter (fun u => !decide (u = z))).map pD ++ ((res z).map fun q => T.tup [.int q.1, .int q.2]).map D.t))) = _
    rw [ta_set, List.set_append_right _ _ (Nat.le_refl _), Nat.sub_self, List.set_cons_zero, List.map_append, List.map_map]
    rfl
  have un : ∀ M (r : En), asg (.tup [(.var 4), (.var 5)]) (pD z) M r = asgs [(.var 4), (.var 5)] [.t (.int z.1), .t (.int z.2)] M r := fun M r => rfl
  generalize ((wl.filter (fun u => !decide (u = z)) ++ res z).map pD) = R at *
  generalize ((wl.filter (fun u => !decide (u = z))).map pD) = Q at *
  generalize ((res z).map fun q => T.tup [.int q.1, .int q.2]) = S at *
  generalize Y ++ [MO.lst (wl.map pD)] = Y1 at *
  simp_arith [f_Trace___init___B0, f_Trace___init___C1, wE', m1, s1, x1, k1, c1, b1, l1, e1, -biV, -mkL, -List.map_map, -List.length_append]
theorem wait_cond {G : Cal} {w b : D} {wl : List (Int × Int)} {x4 x5 : Option D} : evT G (.cmp .ne (.var 3) (.list false [])) (wE' w b (4 + Y.length) x4 x5) (TA ws t (Y ++ [MO.lst (wl.map pD)])) = .ok (!wl.isEmpty) (TA ws t (Y ++ [MO.lst (wl.map pD)])) := by
  have g0 : (TA ws t (Y ++ [MO.lst (wl.map pD)]))[4 + Y.length]? = some (.lst (wl.map pD)) := by rw [ta_get]; simp
  have q1 : ∀ k, eqV2 (TA ws t (Y ++ [MO.lst (wl.map pD)])) (.ref (4 + Y.length)) (.t (.lst [])) k = .ok (.t (.bl (k wl.isEmpty))) (TA ws t (Y ++ [MO.lst (wl.map pD)])) := fun k => by
    cases wl with
    | nil =>
      have s0 : snap (TA ws t (Y ++ [MO.lst []])) deep (.ref (4 + Y.length)) = some (.lst []) := snap_lst (l := []) g0
      have l1 : lsOf (TA ws t (Y ++ [MO.lst []])) (.ref (4 + Y.length)) = some [] := by
        have g0' : (TA ws t (Y ++ [MO.lst []]))[4 + Y.length]? = some (.lst []) := g0
        simp only [lsOf, g0']
      have l2 : lsOf (TA ws t (Y ++ [MO.lst []])) (.t (.lst [])) = some [] := rfl
      have e3 : eqV3 (TA ws t (Y ++ [MO.lst []])) (.ref (4 + Y.length)) (.t (.lst [])) k = .ok (.t (.bl (k true))) (TA ws t (Y ++ [MO.lst []])) := by
        unfold eqV3
        rw [s0, snap_t]
        rfl
      show eqV2 (TA ws t (Y ++ [MO.lst []])) (.ref (4 + Y.length)) (.t (.lst [])) k = _
      unfold eqV2
      rw [l1, l2]
      exact e3
    | cons q wl =>
      unfold eqV2
      simp only [lsOf, g0]
      rw [decide_eq_false (by simp)]
      rfl
  generalize TA ws t (Y ++ [MO.lst (wl.map pD)]) = Z at *
  simp_arith [wE', q1, -List.length_append]
/-- a place is come to -/
inductive Come (ws : List Int) (t : Tr) (q : Int × Int) : Tr → List (Int × Int) → Prop
  | out : ¬ (0 ≤ q.1 ∧ q.1 < ws.length) ∨ q.1 ∈ t.rows.map (·.1) → Come ws t q t []
  | non : 0 ≤ q.1 → q.1 < ws.length → q.1 ∉ t.rows.map (·.1) → q.1 ∉ t.inner.map (·.1) → rowF ws q.1 = none → Come ws t q t []
  | inn : 0 ≤ q.1 → q.1 < ws.length → q.1 ∉ t.rows.map (·.1) → q.1 ∈ t.inner.map (·.1) → Come ws t q { t with apart := t.apart ++ [(q.2, q.1)] } []
  | over {o : Op} : 0 ≤ q.1 → q.1 < ws.length → q.1 ∉ t.rows.map (·.1) → q.1 ∉ t.inner.map (·.1) → o.good → rowF ws q.1 = some o.row → (fur q.1 o.mn).any (bsy t) = true → Come ws t q { t with apart := t.apart ++ [(q.2, q.1)] } []
  | new {o : Op} : 0 ≤ q.1 → q.1 < ws.length → q.1 ∉ t.rows.map (·.1) → q.1 ∉ t.inner.map (·.1) → o.good → rowF ws q.1 = some o.row → (fur q.1 o.mn).any (bsy t) = false → Come ws t q (newT t q.1 o) (newG q.1 o)
theorem come_ex (H : TraF F) (hw : Ws ws) (q : Int × Int) (h1 : t.rows.length < 9000) (h2 : t.inner.length < 9000) (h3 : t.apart.length < 9000) : ∃ t' res, Come ws t q t' res ∧ ∀ X, run F (k + 3) 71 [.ref 0, .t (.int q.1), .t (.int q.2)] (TA ws t X) = .ok (.t (.lst (res.map fun q => .tup [.int q.1, .int q.2]))) (TA ws t' X) := by
  by_cases h0 : ¬ (0 ≤ q.1 ∧ q.1 < ws.length) ∨ q.1 ∈ t.rows.map (·.1)
  · exact ⟨t, [], .out h0, fun X => come_out (k := k + 2) H h0⟩
  · rw [not_or, Classical.not_not] at h0
    obtain ⟨⟨g0, g1⟩, g2⟩ := h0
    by_cases g3 : q.1 ∈ t.inner.map (·.1)
    · exact ⟨_, [], .inn g0 g1 g2 g3, fun X => come_in H hw g0 g1 g2 g3 (by omega)⟩
    · cases hr : rowF ws q.1 with
      | none => exact ⟨t, [], .non g0 g1 g2 g3 hr, fun X => come_none H hw g0 g1 g2 g3 hr⟩
      | some r =>
        obtain ⟨o, ho, rfl⟩ := row_op hw hr
        cases hb : (fur q.1 o.mn).any (bsy t) with
        | true => exact ⟨_, [], .over g0 g1 g2 g3 ho hr hb, fun X => come_over H hw g0 g1 g2 g3 hr hb (by omega)⟩
        | false => exact ⟨_, _, .new g0 g1 g2 g3 ho hr hb, fun X => come_new H hw g0 g1 g2 g3 hr hb h1 h2⟩
/-- what holds of a trace all along -/
structure TrInv (ws : List Int) (t : Tr) : Prop where
  r : ∀ q ∈ t.rows, 0 ≤ q.1 ∧ q.1 < ws.length ∧ ∃ o : Op, o.good ∧ q.2 = o.row ∧ rowF ws q.1 = some o.row
  nd : (t.rows.map (·.1)).Nodup
  i : ∀ q ∈ t.inner, ∃ o : Op, (q.2, o.row) ∈ t.rows ∧ q.1 ∈ fur q.2 o.mn
  i2 : ∀ (p : Int) (o : Op), (p, o.row) ∈ t.rows → ∀ j ∈ fur p o.mn, (j, p) ∈ t.inner
  ind : (t.inner.map (·.1)).Nodup
  dj : ∀ j ∈ t.inner.map (·.1), j ∉ t.rows.map (·.1)
  le : t.inner.length ≤ 2 * t.rows.length
theorem Op.row_inj {o o' : Op} (h : o.row = o'.row) : o = o' := by
  cases o <;> cases o' <;> simp [Op.row] at h ⊢ <;> (try exact h) <;> (try omega)
theorem inv0 : TrInv ws ⟨[], [], []⟩ := ⟨(fun _ h => nomatch h), by simp, (fun _ h => nomatch h), (fun _ _ h => nomatch h), by simp, (fun _ h => nomatch h), by simp⟩
theorem come_inv {q : Int × Int} {res : List (Int × Int)} (h : TrInv ws t) (c : Come ws t q t' res) : TrInv ws t' := by
  cases c with
  | out _ => exact h
  | non _ _ _ _ _ => exact h
  | inn _ _ _ _ => exact ⟨h.r, h.nd, h.i, h.i2, h.ind, h.dj, h.le⟩
  | over _ _ _ _ _ _ _ => exact ⟨h.r, h.nd, h.i, h.i2, h.ind, h.dj, h.le⟩
  | @new o g0 g1 g2 g3 ho hr hb =>
    have nb : ∀ j ∈ fur q.1 o.mn, j ∉ t.rows.map (·.1) ∧ j ∉ t.inner.map (·.1) := fun j hj => by
      have := List.any_eq_false.mp hb j hj
      unfold bsy at this
      simp only [Bool.or_eq_true, decide_eq_true_eq, not_or] at this
      exact this
    have fm : ∀ (p : Int) (m : Nat) (j : Int), j ∈ fur p m → p < j := fun p m j hj => by
      unfold fur at hj
      obtain ⟨i, _, rfl⟩ := List.mem_map.mp hj
      omega
    have fnd : (fur q.1 o.mn).Nodup := by
      unfold fur
      refine List.Pairwise.map _ (fun a b hab e => ?_) (List.nodup_range (n := o.mn))
      exact hab (by omega)
    have ek : (newT t q.1 o).rows.map (·.1) = t.rows.map (·.1) ++ [q.1] := by simp [newT]
    have ei : (newT t q.1 o).inner.map (·.1) = t.inner.map (·.1) ++ fur q.1 o.mn := by
      show (t.inner ++ (fur q.1 o.mn).map fun i => (i, q.1)).map (·.1) = _
      rw [List.map_append, List.map_map]
      congr 1
      exact List.map_id _
    refine ⟨fun z hz => ?_, ?_, fun z hz => ?_, fun p o' hp j hj => ?_, ?_, fun j hj => ?_, ?_⟩
    · rcases List.mem_append.mp hz with hz | hz
      · exact h.r z hz
      · rw [List.mem_singleton.mp hz]
        exact ⟨g0, g1, o, ho, rfl, hr⟩
    · rw [ek, List.nodup_append]
      refine ⟨h.nd, by simp, fun a ha b hb' e => ?_⟩
      rw [List.mem_singleton.mp hb'] at e
      exact g2 (e ▸ ha)
    · rcases List.mem_append.mp hz with hz | hz
      · obtain ⟨o', h1, h2⟩ := h.i z hz
        exact ⟨o', List.mem_append_left _ h1, h2⟩
      · obtain ⟨i, hi, rfl⟩ := List.mem_map.mp hz
        exact ⟨o, List.mem_append_right _ (by simp), hi⟩
    · rcases List.mem_append.mp hp with hp | hp
      · exact List.mem_append_left _ (h.i2 p o' hp j hj)
      · have e := List.mem_singleton.mp hp
        injection e with e1 e2
        have e3 := Op.row_inj e2
        subst e1 e3
        exact List.mem_append_right _ (List.mem_map.mpr ⟨j, hj, rfl⟩)
    · rw [ei, List.nodup_append]
      refine ⟨h.ind, fnd, fun a ha b hb' e => ?_⟩
      subst e
      exact (nb a hb').2 ha
    · rw [ei] at hj
      rw [ek, List.mem_append, not_or]
      rcases List.mem_append.mp hj with hj | hj
      · refine ⟨h.dj j hj, fun z => ?_⟩
        rw [List.mem_singleton.mp z] at hj
        exact g3 hj
      · refine ⟨(nb j hj).1, fun z => ?_⟩
        have := fm _ _ _ hj
        rw [List.mem_singleton.mp z] at this
        omega
    · show (t.inner ++ (fur q.1 o.mn).map fun i => (i, q.1)).length ≤ 2 * (t.rows ++ [(q.1, o.row)]).length
      have hm := o.mn_le
      have := h.le
      simp [fur]
      omega
theorem int_len : ∀ (N : Nat) (l : List Int), l.Nodup → (∀ x ∈ l, 0 ≤ x ∧ x < N) → l.length ≤ N := fun N l hn h => by
  have := nat_len N (l.map Int.toNat) (by
    refine List.Pairwise.map _ (fun a b hab => ?_) (List.Pairwise.and_mem.mp hn)
    obtain ⟨ha, hb, hne⟩ := hab
    have h1 := h a ha
    have h2 := h b hb
    intro e
    exact hne (by omega)) (fun x hx => by
      obtain ⟨i, hi, rfl⟩ := List.mem_map.mp hx
      have := h i hi
      omega)
  rwa [List.length_map] at this
theorem inv_len (h : TrInv ws t) : t.rows.length ≤ ws.length := by
  have := int_len ws.length (t.rows.map (·.1)) h.nd (fun x hx => by
    obtain ⟨q, hq, rfl⟩ := List.mem_map.mp hx
    exact ⟨(h.r q hq).1, (h.r q hq).2.1⟩)
  rwa [List.length_map] at this
theorem newG_len (p : Int) (o : Op) : (newG p o).length ≤ 2 := by
  have : (goalsF p o).1.length ≤ 1 := by cases o <;> simp [goalsF]
  unfold newG
  cases (goalsF p o).2 <;> simp <;> omega
/-- a trace made: what its steps keep holds in the end -/
theorem trace_init (H : TraF F) {bs : List Int} (hw : Ws ws) (hs : ws.length ≤ 256) (hb : bs.length ≤ 16) (P : Tr → List (Int × Int) → Prop) (hP0 : P ⟨[], [], []⟩ (bs.map fun b => (b, -1))) (hP : ∀ t wl z t' res, TrInv ws t → P t wl → z ∈ wl → (∀ u ∈ wl, ¬ ltP u z) → Come ws t z t' res → P t' (wl.filter (fun u => !decide (u = z)) ++ res)) : ∃ t X, run F (k + 4) 70 [.ref 0, .t (tl ws), .t (tl bs)] [.obj 1 []] = .ok (.t .non) (TA ws t X) ∧ TrInv ws t ∧ P t [] := by
  obtain ⟨r', M', e2, tf, Xf, hM, hT, hE⟩ := whl_ok (c := evT (run F (k + 3)) (.cmp .ne (.var 3) (.list false []))) (b := evB (run F (k + 3)) f_Trace___init___B0) (fun m r M => ∃ t Y wl x4 x5, r = wE' (.t (tl ws)) (.t (tl bs)) (4 + Y.length) x4 x5 ∧ M = TA ws t (Y ++ [MO.lst (wl.map pD)]) ∧ wl.length + 3 * (256 - t.rows.length) ≤ m ∧ TrInv ws t ∧ P t wl ∧ t.apart.length + m ≤ 900 ∧ m ≤ 900) (fun r M => ∃ t X, M = TA ws t X ∧ TrInv ws t ∧ P t []) (by
    rintro m r M ⟨t, Y, wl, x4, x5, rfl, rfl, hwl, ht, hp, ha, hm2⟩
    have hrl := inv_len ht
    have hil := ht.le
    cases wl with
    | nil => exact Or.inl ⟨_, wait_cond, t, _, rfl, ht, hp⟩
    | cons q rl =>
      rw [List.length_cons] at hwl
      have hcc := fun z : Int × Int => come_ex (k := k) (t := t) H hw z (by omega) (by omega) (by omega)
      have hrs : ∀ z, (Classical.choose (Classical.choose_spec (hcc z))).length ≤ 2 := fun z => by
        have := (Classical.choose_spec (Classical.choose_spec (hcc z))).1
        generalize Classical.choose (Classical.choose_spec (hcc z)) = R at this
        generalize Classical.choose (hcc z) = t' at this
        cases this <;> (try simp)
        exact newG_len _ _
      obtain ⟨z, hz, hmin, y4, y5, Y', e⟩ := trace_round (k := k) (ws := ws) (t := t) (Y := Y) H (w := .t (tl ws)) (b := .t (tl bs)) (wl := q :: rl) (x4 := x4) (x5 := x5) rfl (by simp; omega) (fun z => Classical.choose (Classical.choose_spec (hcc z))) (fun z => Classical.choose (hcc z)) (fun z _ => by have := hrs z; omega) (fun z _ X => (Classical.choose_spec (Classical.choose_spec (hcc z))).2 X)
      have hc := (Classical.choose_spec (Classical.choose_spec (hcc z))).1
      generalize Classical.choose (Classical.choose_spec (hcc z)) = R at hc e
      generalize Classical.choose (hcc z) = t' at hc e
      have hlt : ((q :: rl).filter (fun u => !decide (u = z))).length < rl.length + 1 := by
        have := List.length_filter_lt_length_iff_exists (p := fun u => !decide (u = z)) (l := q :: rl) |>.mpr ⟨z, hz, by simp⟩
        simpa using this
      have hi' := come_inv ht hc
      have hrl' := inv_len hi'
      have hdec : ((q :: rl).filter (fun u => !decide (u = z)) ++ R).length + 3 * (256 - t'.rows.length) ≤ m - 1 ∧ t'.apart.length ≤ t.apart.length + 1 := by
        rw [List.length_append]
        cases hc with
        | out _ => simp; omega
        | non _ _ _ _ _ => simp; omega
        | inn _ _ _ _ => simp; omega
        | over _ _ _ _ _ _ _ => simp; omega
        | @new o g0 g1 g2 g3 ho hr hb =>
          have h1 := newG_len z.1 o
          have h2 : (newT t z.1 o).rows.length = t.rows.length + 1 := by simp [newT]
          have h3 : (newT t z.1 o).apart.length = t.apart.length := rfl
          rw [h2] at hrl' ⊢
          rw [h3]
          omega
      exact Or.inr ⟨_, _, _, m - 1, wait_cond, e, by omega, t', Y', _, y4, y5, rfl, rfl, hdec.1, hi', hP _ _ _ _ _ ht hp hz hmin hc, by omega, by omega⟩) 800 wfuel _ _ (by unfold wfuel; omega) ⟨⟨[], [], []⟩, [], bs.map fun b => (b, -1), none, none, rfl, rfl, by simp; omega, inv0, hP0, by simp, by omega⟩
  refine ⟨tf, Xf, ?_, hT, hE⟩
  subst hM
  rw [run_at H.h70]
  have eW : evS (run F (k + 3)) f_Trace___init___L0 (wE' (.t (tl ws)) (.t (tl bs)) 4 none none) (TA ws ⟨[], [], []⟩ [.lst ((bs.map fun b => (b, -1)).map pD)]) = .ok (.nx r') (TA ws tf Xf) := by
    unfold f_Trace___init___L0
    rw [evS_whl]
    exact e2
  have x1 : ∀ M, cmpF (cmpBody (run F (k + 3)) (.var 4) none (.tuple [(.var 4), (.glo (.int (-1)))]) [some (.ref 0), some (.t (tl ws)), some (.t (tl bs)), none, none, none, none]) (bs.map fun i => D.t (.int i)) [] M = .ok ((bs.map fun b => (b, -1)).map pD) M := fun M => by
    rw [List.map_map]
    refine (comp_map (l := bs) (g := fun i => D.t (.int i)) (h := pD ∘ fun b => (b, -1)) (fun i _ => ?_) (by show _ ≤ 16777216; omega))
    rw [xCb]
    simp_arith [wipeE, Tg.slots, noExc]
  have s1 : ∀ M, srSeq (.t (tl bs)) M = .ok (.fix (bs.map fun i => D.t (.int i))) M := fun M => by
    show Res.ok (Itm.fix ((bs.map T.int).map D.t)) M = _
    rw [List.map_map]
    rfl
  generalize ((bs.map fun b => (b, -1)).map pD) = LL at *
  rw [wE', show TA ws ⟨[], [], []⟩ [.lst LL] = [.obj 1 [("words", .t (tl ws)), ("rows", .ref 1), ("inner", .ref 2), ("apart", .ref 3)], .dK [], .dK [], .lst [], .lst LL] from rfl] at eW
  generalize tl bs = TL at *
  generalize TA ws tf Xf = Z at *
  generalize (bs.map fun i => D.t (.int i)) = BL at *
  simp_arith! [f_Trace___init__, f_Trace___init___C0, s1, x1, eW]
end
end Rw
end
section
set_option Elab.async false
set_option linter.all false
set_option maxRecDepth 100000
set_option maxHeartbeats 0
namespace Rw
open PySem Rw.Pr
theorem zipZ {α : Type} (g : α → T) (l : List (Int × α)) : (l.map fun q => (.inl q.1 : L2.Key)).zip ((l.map fun q => g q.2).map D.t) = dkZ (fun a => D.t (g a)) l := by
  unfold dkZ
  induction l with
  | nil => rfl
  | cons q l ih => simp only [List.map_cons, List.zip_cons_cons, ih]
abbrev rowsZ (t : Tr) : T := .dct (t.rows.map fun q => .inl q.1) (t.rows.map fun q => rT (some q.2))
abbrev innZ (t : Tr) : T := .dct (t.inner.map fun q => .inl q.1) (t.inner.map fun q => .int q.2)
abbrev apZ (t : Tr) : T := .lst (t.apart.map fun q => .tup [.int q.1, .int q.2])
abbrev trT (ws : List Int) (t : Tr) : T := .obj 1 ["words", "rows", "inner", "apart"] [tl ws, rowsZ t, innZ t, apZ t]
section
variable {F : Nat → Option Fn} {k : Nat} {M : Ar} {ws bs : List Int} {t : Tr} {X : Ar}
theorem mapO_st {n : Nat} : ∀ l : List T, mapO (snap M n) (l.map D.t) = some l
  | [] => rfl
  | a :: l => by
    rw [List.map_cons]
    simp only [mapO, snap_t]
    rw [mapO_st l]
theorem snap_tr : snap (TA ws t X) deep (.ref 0) = some (trT ws t) := by
  have h1 : snap (TA ws t X) 5 (.ref 1) = some (rowsZ t) := by
    have g : (TA ws t X)[1]? = some (.dK (dkZ rwD t.rows)) := rfl
    simp only [snap, g]
    rw [show (dkZ rwD t.rows).map (·.2) = (t.rows.map fun q => rT (some q.2)).map D.t by simp [dkZ, rwD], mapO_st, show (dkZ rwD t.rows).map (·.1) = t.rows.map fun q => .inl q.1 by simp [dkZ]]
    rfl
  have h2 : snap (TA ws t X) 5 (.ref 2) = some (innZ t) := by
    have g : (TA ws t X)[2]? = some (.dK (dkZ iD t.inner)) := rfl
    simp only [snap, g]
    rw [show (dkZ iD t.inner).map (·.2) = (t.inner.map fun q => T.int q.2).map D.t by simp [dkZ, iD], mapO_st, show (dkZ iD t.inner).map (·.1) = t.inner.map fun q => .inl q.1 by simp [dkZ]]
    rfl
  have h3 : snap (TA ws t X) 5 (.ref 3) = some (apZ t) := by
    have g : (TA ws t X)[3]? = some (.lst (t.apart.map pD)) := rfl
    simp only [snap, g]
    rw [show t.apart.map pD = (t.apart.map fun q => T.tup [.int q.1, .int q.2]).map D.t by simp, mapO_st]
    rfl
  have g : (TA ws t X)[0]? = some (.obj 1 [("words", .t (tl ws)), ("rows", .ref 1), ("inner", .ref 2), ("apart", .ref 3)]) := rfl
  unfold deep
  rw [show snap (TA ws t X) 6 (.ref 0) = (match (TA ws t X)[0]? with
    | some (MO.lst l) => (mapO (snap (TA ws t X) 5) l).map T.lst
    | some (MO.dK l) => (mapO (snap (TA ws t X) 5) (l.map (·.2))).map (T.dct (l.map (·.1)))
    | some (MO.obj c l) => (mapO (snap (TA ws t X) 5) (l.map (·.2))).map (T.obj c (l.map (·.1)))
    | _ => none) from rfl, g]
  show (mapO (snap (TA ws t X) 5) [.t (tl ws), .ref 1, .ref 2, .ref 3]).map (T.obj 1 _) = _
  simp only [mapO, snap_t, h1, h2, h3]
  rfl
theorem trace_call (H : TraF F) (hw : Ws ws) (hs : ws.length ≤ 256) (hb : bs.length ≤ 16) (P : Tr → List (Int × Int) → Prop) (hP0 : P ⟨[], [], []⟩ (bs.map fun b => (b, -1))) (hP : ∀ t wl z t' res, TrInv ws t → P t wl → z ∈ wl → (∀ u ∈ wl, ¬ ltP u z) → Come ws t z t' res → P t' (wl.filter (fun u => !decide (u = z)) ++ res)) :
    ∃ t, TrInv ws t ∧ P t [] ∧ ∀ M, makeFV (run F (k + 4)) 1 70 [.t (tl ws), .t (tl bs)] M = .ok (.t (trT ws t)) M := by
  obtain ⟨t, X, e, h1, h2⟩ := trace_init (k := k) H hw hs hb P hP0 hP
  refine ⟨t, h1, h2, fun M => ?_⟩
  unfold makeFV
  show (match run F (k + 4) 70 (.ref 0 :: [tl ws, tl bs].map .t) [.obj 1 []] with
    | .ok (.t .non) M1 => (match snap M1 deep (.ref 0) with
      | some t => Res.ok (D.t t) M
      | none => .stuck)
    | .exc c fs _ => .exc c fs M
    | _ => .stuck) = _
  rw [show run F (k + 4) 70 (.ref 0 :: [tl ws, tl bs].map .t) [.obj 1 []] = _ from e, ]
  simp only [snap_tr]
theorem tr_rows : attrV 1 (.t (trT ws t)) "rows" M = .ok (.t (rowsZ t)) M := by simp [attrV, fdOf, List.lookup, beq_ofString]
theorem tr_apart : attrV 1 (.t (trT ws t)) "apart" M = .ok (.t (apZ t)) M := by simp [attrV, fdOf, List.lookup, beq_ofString]
theorem dk_rowsZ : dkOf M (.t (rowsZ t)) = some (dkZ rwD t.rows) := by
  show some ((t.rows.map fun q => (.inl q.1 : L2.Key)).zip ((t.rows.map fun q => rT (some q.2)).map D.t)) = _
  rw [zipZ (fun r => rT (some r))]
  rfl
theorem idx_rowsZ {i : Int} {r : Row} (h : t.rows.lookup i = some r) : idxV (.t (rowsZ t)) (.t (.int i)) M = .ok (.t (rT (some r))) M := by
  have v : valD (dkZ rwD t.rows) (.inl i) = some (rwD r) := by rw [valD_dkZ, h]; rfl
  unfold idxV
  rw [dk_rowsZ]
  simp only [stOf, idxD, keyD, v]
  rfl
def baseF (t : Tr) (p : Int) : Int := (t.inner.lookup p).getD p
theorem look_mem {α : Type} {i : Int} {a : α} : ∀ {l : List (Int × α)}, l.lookup i = some a → (i, a) ∈ l
  | [], h => by cases h
  | (u, b) :: l, h => by
    rw [List.lookup_cons] at h
    by_cases e : i = u
    · subst e
      simp at h
      subst h
      exact List.mem_cons_self
    · have : (i == u) = false := by simpa using e
      rw [this] at h
      exact List.mem_cons_of_mem _ (look_mem h)
theorem mem_insI (x a : Int) : ∀ l : List Int, a ∈ insI x l ↔ a = x ∨ a ∈ l
  | [] => by simp [insI]
  | y :: l => by
    unfold insI
    split
    · simp
    · simp [mem_insI x a l]
      constructor
      · rintro (h | h | h)
        · exact Or.inr (Or.inl h)
        · exact Or.inl h
        · exact Or.inr (Or.inr h)
      · rintro (h | h | h)
        · exact Or.inr (Or.inl h)
        · exact Or.inl h
        · exact Or.inr (Or.inr h)
theorem mem_sortI (a : Int) : ∀ l : List Int, a ∈ sortI l ↔ a ∈ l
  | [] => by simp [sortI]
  | x :: l => by
    unfold sortI
    rw [mem_insI, mem_sortI a l, List.mem_cons]
theorem len_insI (x : Int) : ∀ l : List Int, (insI x l).length = l.length + 1
  | [] => rfl
  | y :: l => by
    unfold insI
    split
    · rfl
    · simp [len_insI x l]
theorem len_sortI : ∀ l : List Int, (sortI l).length = l.length
  | [] => rfl
  | x :: l => by unfold sortI; rw [len_insI, len_sortI l]; rfl
theorem sort_rowsZ (h : t.rows.length ≤ 1000) : biV .sortD [.t (rowsZ t)] M = .ok (.t (tl (sortI (t.rows.map (·.1))))) M := by
  have hk : mapO keyI ((dkZ rwD t.rows).map (·.1)) = some (t.rows.map (·.1)) := by
    unfold dkZ
    rw [List.map_map]
    generalize t.rows = rl
    induction rl with
    | nil => rfl
    | cons q rl ih =>
      rw [List.map_cons]
      simp only [mapO, Function.comp, keyI] at ih ⊢
      rw [ih]
      rfl
  show sortDV (.t (rowsZ t)) M = _
  unfold sortDV
  rw [dk_rowsZ]
  show okIf (decide ((dkZ rwD t.rows).length ≤ line)) _ = _
  rw [dkZ_len, decide_eq_true (show t.rows.length ≤ line by unfold line; omega), hk]
  rfl
abbrev poT (q : Int × String) : T := .tup [.int q.1, .str (Str.ofString q.2)]
def opAt (t : Tr) (i : Int) : String := ((t.rows.lookup i).getD ("", [], [], 0)).1
def coF (t : Tr) : List (Int × String) := (sortI (t.rows.map (·.1))).map fun i => (i, opAt t i)
theorem seq_tlZ {l : List Int} : srSeq (.t (tl l)) M = .ok (.fix (l.map fun i => D.t (.int i))) M := by
  show Res.ok (Itm.fix ((l.map T.int).map D.t)) M = _
  rw [List.map_map]
  rfl
theorem come_to_ok (H : TraF F) (h80 : F 80 = some f_come_to) (hw : Ws ws) (hs : ws.length ≤ 256) (hbw : Ws bs) (hb : bs.length ≤ 16) (hT : TrInv ws t) (hm : ∀ M, makeFV (run F (k + 4)) 1 70 [.t (tl ws), .t (tl bs)] M = .ok (.t (trT ws t)) M) : callV (run F (k + 5)) .clean 80 [.t (tl ws), .t (tl bs)] M = .ok (.t (.lst ((coF t).map poT))) M := by
  have hrl := inv_len hT
  have c1 := fun M => need_words_call (k := k + 2) (M := M) H.c hw hs
  have c2 := fun M => need_begins_call (k := k + 2) (M := M) H.c H.h69 hbw hb
  have s1 := fun M => sort_rowsZ (M := M) (t := t) (by omega)
  have q1 := fun M => seq_tlZ (M := M) (l := sortI (t.rows.map (·.1)))
  have x1 : ∀ M, cmpF (cmpBody (run F (k + 4)) (.var 3) none (.tuple [(.var 3), (.idx (.idx (.attr 1 (.var 2) "rows") (.var 3)) (.con (.int 0)))]) [some (.t (tl ws)), some (.t (tl bs)), some (.t (trT ws t)), none]) ((sortI (t.rows.map (·.1))).map fun i => D.t (.int i)) [] M = .ok ((sortI (t.rows.map (·.1))).map fun i => D.t (poT (i, opAt t i))) M := fun M => by
    refine comp_map (fun i hi => ?_) (by rw [len_sortI]; show _ ≤ 16777216; simp; omega)
    have hi' := (mem_sortI _ _).mp hi
    obtain ⟨r, hr⟩ : ∃ r, t.rows.lookup i = some r := by
      have := lookZ (i := i) (l := t.rows)
      rw [decide_eq_true hi'] at this
      exact Option.isSome_iff_exists.mp this
    have i1 := fun M => idx_rowsZ (M := M) hr
    have i2 : ∀ M, idxV (.t (rT (some r))) (.t (.int 0)) M = .ok (.t (.str (Str.ofString r.1))) M := fun M => rfl
    have ho : opAt t i = r.1 := by unfold opAt; rw [hr]; rfl
    have a1 := fun M => tr_rows (M := M) (ws := ws) (t := t)
    rw [ho, xCb]
    generalize rT (some r) = RT at *
    generalize rowsZ t = RZ at *
    generalize trT ws t = TT at *
    simp_arith [wipeE, Tg.slots, noExc, a1, i1, i2, -idxV]
  have y1 : frzL ((sortI (t.rows.map (·.1))).map fun i => D.t (poT (i, opAt t i))) = .t (.lst ((coF t).map poT)) := by
    unfold coF
    rw [← frzL_map, List.map_map, List.map_map]
    rfl
  have a1 := fun M => tr_rows (M := M) (ws := ws) (t := t)
  refine callV_clean (ts := [tl ws, tl bs]) (M1 := []) (d := .t (.lst ((coF t).map poT))) rfl ?_ (snap_t _ _ _)
  show run F (k + 5) 80 [.t (tl ws), .t (tl bs)] [] = _
  rw [run_at h80]
  generalize (coF t).map poT = LL at *
  generalize ((sortI (t.rows.map (·.1))).map fun i => D.t (poT (i, opAt t i))) = L1 at *
  generalize ((sortI (t.rows.map (·.1))).map fun i => D.t (.int i)) = L0 at *
  generalize tl (sortI (t.rows.map (·.1))) = SS at *
  generalize rowsZ t = RZ at *
  generalize trT ws t = TT at *
  simp_arith [f_come_to, f_come_to_C0, c1, c2, list_tl, hm, a1, s1, q1, x1, y1, -biV, -idxV, -frzL]
end
end Rw
end
section
set_option Elab.async false
set_option linter.all false
set_option maxRecDepth 100000
set_option maxHeartbeats 0
namespace Rw
open PySem Rw.Pr
structure Mc where
  cells : List Int
  boxes : List Int
  place : Int
  calls : List Int
  says : List Int
  why : String
  past : List Int
def at_ (l : List Int) (i : Int) : Int := l.getD i.toNat 0
def Op.do (s : Mc) : Op → Mc
  | .take b n => { s with boxes := s.boxes.set b.toNat n, place := s.place + 1 }
  | .takeB b n => { s with boxes := s.boxes.set b.toNat n, place := s.place + 2 }
  | .stop => { s with why := "stop" }
  | .back => if s.calls = [] then { s with why := "back" } else { s with place := s.calls.getLastD 0, calls := s.calls.dropLast }
  | .say b => { s with says := s.says ++ [at_ s.boxes b], place := s.place + 1 }
  | .move b c => { s with boxes := s.boxes.set b.toNat (at_ s.boxes c % 256), place := s.place + 1 }
  | .add b c => { s with boxes := s.boxes.set b.toNat ((at_ s.boxes b + at_ s.boxes c) % 256), place := s.place + 1 }
  | .less b c => { s with boxes := s.boxes.set b.toNat ((at_ s.boxes b - at_ s.boxes c) % 256), place := s.place + 1 }
  | .load b n => { s with boxes := s.boxes.set b.toNat (at_ s.cells n), place := s.place + 2 }
  | .store b n => { s with cells := s.cells.set n.toNat (at_ s.boxes b), place := s.place + 2 }
  | .jump n => { s with place := n }
  | .call n => if s.calls.length = 16 then { s with why := "deep" } else { s with calls := s.calls ++ [s.place + 2], place := n }
  | .skip n => { s with place := s.place + 2 + (if n ≥ 128 then n - 256 else n) }
  | .zero b n => { s with place := if at_ s.boxes b = 0 then n else s.place + 2 }
  | .same b c n => { s with place := if at_ s.boxes b = at_ s.boxes c then n else s.place + 2 }
  | .copy n m => { s with cells := s.cells.set m.toNat (at_ s.cells n), place := s.place + 3 }
structure Mc.ok (s : Mc) : Prop where
  c : s.cells.length = 256
  b : s.boxes.length = 4
  l : s.calls.length ≤ 16
  p : s.past.length ≤ 1000
  y : s.says.length ≤ 1000
def MA (ws : List Int) (s : Mc) : Ar := [.obj 0 [("words", .t (tl ws)), ("cells", .ref 1), ("boxes", .ref 2), ("place", .t (.int s.place)), ("calls", .ref 3), ("says", .ref 4), ("why", .t (.str (Str.ofString s.why))), ("past", .ref 5)],
  .lst (il s.cells), .lst (il s.boxes), .lst (il s.calls), .lst (il s.says), .lst (il s.past)]
structure RunF (F : Nat → Option Fn) : Prop where
  c : CodF F
  h7 : F 7 = some f_Machine___init__
  h8 : F 8 = some f_Machine_step
  h9 : F 9 = some f_Machine_do
  h10 : F 10 = some f_Machine_go_down
  h11 : F 11 = some f_Machine_come_back
  h12 : F 12 = some f_Machine_reckon
  h13 : F 13 = some f_run
theorem at_il {l : List Int} {i : Int} {n : Nat} (hl : l.length = n) (h0 : 0 ≤ i) (h1 : i < n) : L2.atI (il l) i = some (.t (.int (at_ l i))) := atI_il h0 (by omega)
theorem il_snoc (l : List Int) (x : Int) : il l ++ [.t (.int x)] = il (l ++ [x]) := by simp [il]
theorem il_drop (l : List Int) : (il l).dropLast = il l.dropLast := by simp [il, List.map_dropLast]
theorem mapO_il (M : Ar) (n : Nat) : ∀ l : List Int, mapO (snap M n) (il l) = some (l.map T.int)
  | [] => rfl
  | a :: l => by
    have e : il (a :: l) = .t (.int a) :: il l := rfl
    rw [e]
    simp [mapO, snap_t, mapO_il M n l]
section
variable {F : Nat → Option Fn} {k : Nat} {ws : List Int} {s : Mc}
theorem down_ok (H : RunF F) {g b : Int} (ok : s.ok) : run F (k + 1) 10 [.ref 0, .t (.int g), .t (.int b)] (MA ws s) = .ok (.t .non) (MA ws (if s.calls.length = 16 then { s with why := "deep" } else { s with calls := s.calls ++ [b], place := g })) := by
  rw [run_at H.h10]
  have hl : s.calls.length < 16777216 := by have := ok.l; omega
  by_cases h : s.calls.length = 16
  · have h' : (s.calls.length : Int) = 16 := by omega
    rw [if_pos h]
    simp_arith! [f_Machine_go_down, MA, h', hl]
  · have h' : ¬ (s.calls.length : Int) = 16 := by omega
    rw [if_neg h]
    simp_arith! [f_Machine_go_down, MA, h', hl, il_snoc]
theorem back_ok (H : RunF F) : run F (k + 1) 11 [.ref 0] (MA ws s) = .ok (.t .non) (MA ws (if s.calls = [] then { s with why := "back" } else { s with place := s.calls.getLastD 0, calls := s.calls.dropLast })) := by
  rw [run_at H.h11]
  have hq : eqV2 (MA ws s) (.ref 3) (.t (.lst [])) id = .ok (.t (.bl (decide (s.calls = [])))) (MA ws s) := by
    have z := eq_ref_nil (M := MA ws s) (i := 3) (l := il s.calls) (k := id) rfl
    have e : (il s.calls).isEmpty = decide (s.calls = []) := by cases s.calls <;> rfl
    rw [e] at z
    exact z
  by_cases h : s.calls = []
  · rw [if_pos h]
    rw [decide_eq_true h] at hq
    simp only [MA] at hq ⊢
    simp_arith! [f_Machine_come_back, hq]
  · rw [if_neg h]
    rw [decide_eq_false h] at hq
    have hg : (il s.calls)[s.calls.length - 1]? = some (.t (.int (s.calls.getLastD 0))) := by
      rw [il_get]
      have hl : s.calls.length - 1 < s.calls.length := by have := List.length_pos_iff.mpr h; omega
      rw [List.getElem?_eq_getElem hl]
      show some (D.t (.int _)) = _
      congr 3
      rw [List.getLastD_eq_getLast?, List.getLast?_eq_getElem?, List.getElem?_eq_getElem hl]
      rfl
    simp only [MA] at hq ⊢
    simp_arith! [f_Machine_come_back, hq, hg, il_drop, -List.getLastD_eq_getLast?]
def rkF (s : Mc) : Op → Mc
  | .take b n => { s with boxes := s.boxes.set b.toNat n }
  | .takeB b n => { s with boxes := s.boxes.set b.toNat n }
  | .say b => { s with says := s.says ++ [at_ s.boxes b] }
  | .move b c => { s with boxes := s.boxes.set b.toNat (at_ s.boxes c % 256) }
  | .add b c => { s with boxes := s.boxes.set b.toNat ((at_ s.boxes b + at_ s.boxes c) % 256) }
  | .less b c => { s with boxes := s.boxes.set b.toNat ((at_ s.boxes b - at_ s.boxes c) % 256) }
  | .load b n => { s with boxes := s.boxes.set b.toNat (at_ s.cells n) }
  | .store b n => { s with cells := s.cells.set n.toNat (at_ s.boxes b) }
  | .copy n m => { s with cells := s.cells.set m.toNat (at_ s.cells n) }
  | _ => s
def Op.rk : Op → Bool
  | .stop => false
  | .back => false
  | .jump _ => false
  | .call _ => false
  | .skip _ => false
  | .zero _ _ => false
  | .same _ _ _ => false
  | _ => true
theorem bo_il {l : List Int} {b : Int} (hl : l.length = 4) (h : bo b) : L2.atI (il l) b = some (.t (.int (at_ l b))) := at_il hl h.1 h.2
theorem no_il {l : List Int} {b : Int} (hl : l.length = 256) (h : no b) : L2.atI (il l) b = some (.t (.int (at_ l b))) := at_il hl h.1 h.2
theorem bo_ix {b : Int} (h : bo b) : L2.ixN 4 b = some b.toNat := ixN_pos h.1 h.2
theorem no_ix {b : Int} (h : no b) : L2.ixN 256 b = some b.toNat := ixN_pos h.1 h.2
theorem reckon_ok (H : RunF F) (o : Op) (hr : o.rk = true) (hg : o.good) (ok : s.ok) : run F (k + 1) 12 [.ref 0, .t (.str (Str.ofString o.row.1)), .t (tl o.row.2.1), .t (tl o.row.2.2.1)] (MA ws s) = .ok (.t .non) (MA ws (rkF s o)) := by
  rw [run_at H.h12]
  have hc := ok.c
  have hb := ok.b
  have hy : s.says.length < 16777216 := by have := ok.y; omega
  cases o with
  | take b n => simp_arith! [f_Machine_reckon, MA, Op.row, rkF, hb, bo_il hb hg.1, bo_ix hg.1, il_set, -L2.ixN]
  | takeB b n => simp_arith! [f_Machine_reckon, MA, Op.row, rkF, hb, bo_il hb hg.1, bo_ix hg.1, il_set, -L2.ixN]
  | say b => simp_arith! [f_Machine_reckon, MA, Op.row, rkF, hb, bo_il hb hg, il_snoc, hy]
  | move b c => simp_arith! [f_Machine_reckon, MA, Op.row, rkF, hb, bo_il hb hg.1, bo_il hb hg.2, bo_ix hg.1, il_set, -L2.ixN]
  | add b c => simp_arith! [f_Machine_reckon, MA, Op.row, rkF, hb, bo_il hb hg.1, bo_il hb hg.2, bo_ix hg.1, il_set, -L2.ixN]
  | less b c => simp_arith! [f_Machine_reckon, MA, Op.row, rkF, hb, bo_il hb hg.1, bo_il hb hg.2, bo_ix hg.1, il_set, -L2.ixN]
  | load b n => simp_arith! [f_Machine_reckon, MA, Op.row, rkF, hb, hc, no_il hc hg.2, bo_ix hg.1, il_set, -L2.ixN]
  | store b n => simp_arith! [f_Machine_reckon, MA, Op.row, rkF, hb, hc, bo_il hb hg.1, no_ix hg.2, il_set, -L2.ixN]
  | copy n m => simp_arith! [f_Machine_reckon, MA, Op.row, rkF, hb, hc, no_il hc hg.1, no_ix hg.2, il_set, -L2.ixN]
  | _ => cases hr
end
end Rw
end
section
set_option Elab.async false
set_option linter.all false
set_option maxRecDepth 100000
set_option maxHeartbeats 0
namespace Rw
open PySem Rw.Pr
section
variable {F : Nat → Option Fn} {k : Nat} {ws : List Int} {s : Mc}
theorem rT_row (o : Op) : rT (some o.row) = .tup [.str (Str.ofString o.row.1), tl o.row.2.1, tl o.row.2.2.1, .int o.row.2.2.2] := by cases o <;> rfl
theorem do_ok (H : RunF F) (o : Op) (hg : o.good) (ok : s.ok) : run F (k + 3) 9 [.ref 0, .t (rT (some o.row))] (MA ws s) = .ok (.t .non) (MA ws (o.do s)) := by
  rw [run_at H.h9]
  have hb := ok.b
  have hgo := fun M => callV_clean (G := run F (k + 2)) (f := 6) (ds := [.t (.int s.place), .t (rT (some o.row))]) (ts := [.int s.place, rT (some o.row)]) (M := M) rfl (goals_ok (k := k) H.c (p := s.place) o) (snap_t _ _ _)
  have hrk := fun hr => reckon_ok (k := k + 1) H (ws := ws) o hr hg ok
  cases o with
  | jump n =>
    simp only [MA] at hrk ⊢
    simp [Op.row, rT, goalsF, tl0, tl1, tl2, -ge_iff_le] at hgo
    simp_arith! [f_Machine_do, Op.row, rT, hgo, Op.do]
  | skip n =>
    simp only [MA] at hrk ⊢
    simp [Op.row, rT, goalsF, tl0, tl1, tl2, -ge_iff_le] at hgo
    simp_arith! [f_Machine_do, Op.row, rT, hgo, Op.do]
  | zero b n =>
    by_cases h : at_ s.boxes b = 0
    · simp only [MA] at hrk ⊢
      simp [Op.row, rT, goalsF, tl0, tl1, tl2, -ge_iff_le] at hgo
      simp_arith! [f_Machine_do, Op.row, rT, hgo, Op.do, bo_il hb hg.1, h]
    · simp only [MA] at hrk ⊢
      simp [Op.row, rT, goalsF, tl0, tl1, tl2, -ge_iff_le] at hgo
      simp_arith! [f_Machine_do, Op.row, rT, hgo, Op.do, bo_il hb hg.1, h]
  | same b c n =>
    by_cases h : at_ s.boxes b = at_ s.boxes c
    · simp only [MA] at hrk ⊢
      simp [Op.row, rT, goalsF, tl0, tl1, tl2, -ge_iff_le] at hgo
      simp_arith! [f_Machine_do, Op.row, rT, hgo, Op.do, bo_il hb hg.1, bo_il hb hg.2.1, h]
    · simp only [MA] at hrk ⊢
      simp [Op.row, rT, goalsF, tl0, tl1, tl2, -ge_iff_le] at hgo
      simp_arith! [f_Machine_do, Op.row, rT, hgo, Op.do, bo_il hb hg.1, bo_il hb hg.2.1, h]
  | call n =>
    have hd := down_ok (k := k + 1) H (ws := ws) (g := n) (b := s.place + 2) ok
    simp only [MA] at hd ⊢
    simp [Op.row, rT, goalsF, tl0, tl1, tl2, -ge_iff_le] at hgo
    simp_arith! [f_Machine_do, Op.row, rT, hgo, Op.do, hd]
  | back =>
    have hd := back_ok (k := k + 1) H (ws := ws) (s := s)
    simp only [MA] at hd ⊢
    simp [Op.row, rT, goalsF, tl0, tl1, tl2, -ge_iff_le] at hgo
    simp_arith! [f_Machine_do, Op.row, rT, hgo, Op.do, hd, -List.getLastD_eq_getLast?]
  | stop =>
    simp only [MA] at hrk ⊢
    simp [Op.row, rT, goalsF, tl0, tl1, tl2, -ge_iff_le] at hgo
    simp_arith! [f_Machine_do, Op.row, rT, hgo, Op.do]
  | _ =>
    replace hrk := hrk rfl
    simp only [MA, Op.row, rkF] at hrk ⊢
    simp [Op.row, rT, goalsF, tl0, tl1, tl2] at hgo hrk
    simp_arith! [f_Machine_do, Op.row, rT, hgo, Op.do, hrk]
def opOf (r : Row) : Op :=
  if r.1 = "take" then .take (at_ r.2.1 0) (at_ r.2.2.1 0) else if r.1 = "take!" then .takeB (at_ r.2.1 0) (at_ r.2.2.1 0) else if r.1 = "stop" then .stop else if r.1 = "back" then .back else
  if r.1 = "say" then .say (at_ r.2.1 0) else if r.1 = "move" then .move (at_ r.2.1 0) (at_ r.2.1 1) else if r.1 = "add" then .add (at_ r.2.1 0) (at_ r.2.1 1) else if r.1 = "less" then .less (at_ r.2.1 0) (at_ r.2.1 1) else
  if r.1 = "load" then .load (at_ r.2.1 0) (at_ r.2.2.1 0) else if r.1 = "store" then .store (at_ r.2.1 0) (at_ r.2.2.1 0) else if r.1 = "jump" then .jump (at_ r.2.2.1 0) else if r.1 = "call" then .call (at_ r.2.2.1 0) else
  if r.1 = "skip" then .skip (at_ r.2.2.1 0) else if r.1 = "zero" then .zero (at_ r.2.1 0) (at_ r.2.2.1 0) else if r.1 = "same" then .same (at_ r.2.1 0) (at_ r.2.1 1) (at_ r.2.2.1 0) else .copy (at_ r.2.2.1 0) (at_ r.2.2.1 1)
theorem opOf_row (o : Op) : opOf o.row = o := by cases o <;> simp [opOf, Op.row, at_]
def stepF (ws : List Int) (s : Mc) : Mc := match rowF ws s.place with
  | none => { s with why := if 0 ≤ s.place ∧ s.place < ws.length then "none" else "end" }
  | some r => (opOf r).do { s with past := s.past ++ [s.place] }
theorem step_ok (H : RunF F) (hw : Ws ws) (ok : s.ok) (hp : s.past.length < 1000) : run F (k + 4) 8 [.ref 0] (MA ws s) = .ok (.t .non) (MA ws (stepF ws s)) := by
  rw [run_at H.h8]
  have hrow := fun M => callV_clean (G := run F (k + 3)) (f := 4) (ds := [.t (tl ws), .t (.int s.place)]) (ts := [tl ws, .int s.place]) (M := M) rfl (row_ok (k := k + 1) H.c (p := s.place) hw) (snap_t _ _ _)
  by_cases h : 0 ≤ s.place ∧ s.place < ws.length
  · obtain ⟨h0, h1⟩ := h
    unfold stepF
    cases q : rowF ws s.place with
    | none =>
      rw [q] at hrow
      simp only [rT] at hrow
      simp only [MA]
      simp_arith! [f_Machine_step, len_bi, -biV, h0, h1, hrow, rT]
    | some r =>
      rw [q] at hrow
      obtain ⟨o, hg, rfl⟩ := row_op hw q
      have hd := do_ok (k := k) H (ws := ws) (s := { s with past := s.past ++ [s.place] }) o hg ⟨ok.c, ok.b, ok.l, by simp; omega, ok.y⟩
      have hl : s.past.length < 16777216 := by omega
      show _ = Res.ok (D.t .non) (MA ws ((opOf o.row).do { s with past := s.past ++ [s.place] }))
      rw [opOf_row]
      rw [rT_row] at hrow hd
      simp only [MA] at hd ⊢
      simp only [← il_snoc] at hd ⊢
      simp_arith! [f_Machine_step, len_bi, -biV, h0, h1, hrow, hd, hl]
  · have e : rowF ws s.place = none := by unfold rowF; rw [if_neg h]
    unfold stepF
    rw [e]
    simp only [MA, if_neg h]
    by_cases h0 : 0 ≤ s.place
    · have h1 : ¬ s.place < ws.length := fun z => h ⟨h0, z⟩
      simp_arith! [f_Machine_step, len_bi, -biV, h0, h1]
    · simp_arith! [f_Machine_step, len_bi, -biV, h0]
end
end Rw
end
section
set_option Elab.async false
set_option linter.all false
set_option maxRecDepth 100000
set_option maxHeartbeats 0
namespace Rw
open PySem Rw.Pr
def iter {σ : Type} (go : σ → Bool) (st : σ → σ) : Nat → σ → σ
  | 0, s => s
  | n + 1, s => if go s = true then iter go st n (st s) else s
theorem whl_sim {σ : Type} {c : En → Ar → Res Bool} {b : En → Ar → Res Fl} (R : σ → En → Ar → Prop) (go : σ → Bool) (st : σ → σ) (mu : σ → Nat)
    (hc : ∀ s r M, R s r M → c r M = .ok (go s) M) (hb : ∀ s r M, R s r M → go s = true → ∃ r' M', b r M = .ok (.nx r') M' ∧ R (st s) r' M') (hm : ∀ s, go s = true → mu (st s) < mu s) :
    ∀ (n N : Nat) (s : σ) (r : En) (M : Ar), mu s ≤ n → n < N → R s r M → ∃ r' M', whl c b N r M = .ok (.nx r') M' ∧ R (iter go st n s) r' M' := by
  intro n
  induction n with
  | zero =>
    intro N s r M h0 hN hR
    cases N with
    | zero => omega
    | succ N =>
      have hg : go s = false := by
        cases q : go s with
        | false => rfl
        | true => have := hm s q; omega
      refine ⟨r, M, ?_, hR⟩
      unfold whl
      rw [hc s r M hR, hg]
      rfl
  | succ n ih =>
    intro N s r M h0 hN hR
    cases N with
    | zero => omega
    | succ N =>
      cases hg : go s with
      | false =>
        refine ⟨r, M, ?_, ?_⟩
        · unfold whl
          rw [hc s r M hR, hg]
          rfl
        · unfold iter; rw [hg, if_neg (by simp)]; exact hR
      | true =>
        obtain ⟨r1, M1, e1, h1⟩ := hb s r M hR hg
        obtain ⟨r2, M2, e2, h2⟩ := ih N (st s) r1 M1 (by have := hm s hg; omega) (by omega) h1
        refine ⟨r2, M2, ?_, ?_⟩
        · unfold whl
          rw [hc s r M hR, hg]
          show ((b r M).bind _) = _
          rw [e1]
          exact e2
        · unfold iter; rw [hg, if_pos rfl]; exact h2
theorem rep_flat {α : Type} (n : Nat) (x : α) : (List.replicate n [x]).flatten = List.replicate n x := by
  induction n with
  | zero => rfl
  | succ n ih => rw [List.replicate_succ, List.flatten_cons, ih]; rfl
theorem il_rep (n : Nat) (x : Int) : List.replicate n (D.t (.int x)) = il (List.replicate n x) := by simp [il]
theorem iter_inv {σ : Type} {go : σ → Bool} {st : σ → σ} (I : σ → Prop) (h : ∀ s, I s → go s = true → I (st s)) : ∀ n s, I s → I (iter go st n s)
  | 0, s, hs => hs
  | n + 1, s, hs => by
    unfold iter
    split
    · rename_i q; exact iter_inv I h n _ (h s hs q)
    · exact hs
section
variable {F : Nat → Option Fn} {k : Nat} {ws : List Int} {s : Mc}
def initF (ws : List Int) (b : Int) : Mc := ⟨ws ++ List.replicate (256 - ws.length) 0, [0, 0, 0, 0], b, [], [], "", []⟩
theorem mInit_ok (H : RunF F) {b : Int} (hl : ws.length ≤ 256) : run F (k + 1) 7 [.ref 0, .t (tl ws), .t (.int b)] [.obj 0 []] = .ok (.t .non) (MA ws (initF ws b)) := by
  rw [run_at H.h7]
  have h1 : (-9223372036854775808 : Int) ≤ 256 - ws.length := by omega
  have h2 : (256 : Int) - ws.length < 9223372036854775808 := by omega
  have h3 : ((256 : Int) - ws.length).toNat = 256 - ws.length := by omega
  have h4 : ws.length + (256 - ws.length) ≤ 16777216 := by omega
  have h5 : 256 - ws.length ≤ 16777216 := by omega
  simp_arith! [f_Machine___init__, list_tl, len_bi, -biV, repL, h1, h2, h3, h4, h5, rep_flat, il_rep, il_app, MA, initF]
  rfl
structure Iv (s : Mc) : Prop where
  c : s.cells.length = 256
  b : s.boxes.length = 4
  l : s.calls.length ≤ 16
  y : s.says.length ≤ s.past.length
theorem Iv.ok (h : Iv s) (hp : s.past.length ≤ 1000) : s.ok := ⟨h.c, h.b, h.l, hp, by have := h.y; omega⟩
theorem do_iv (o : Op) (h : Iv s) (x : Int) : Iv (o.do { s with past := s.past ++ [x] }) ∧ (o.do { s with past := s.past ++ [x] }).past = s.past ++ [x] := by
  obtain ⟨c, b, l, y⟩ := h
  cases o with
  | back =>
    unfold Op.do
    by_cases q : s.calls = []
    · simp only [q, if_true]; exact ⟨⟨c, b, by simp, by simp; omega⟩, trivial⟩
    · simp only [q, if_false]; exact ⟨⟨c, b, by simp; omega, by simp; omega⟩, trivial⟩
  | call n =>
    unfold Op.do
    by_cases q : s.calls.length = 16
    · simp only [q, if_true]; exact ⟨⟨c, b, l, by simp; omega⟩, trivial⟩
    · simp only [q, if_false]; exact ⟨⟨c, b, by simp; omega, by simp; omega⟩, trivial⟩
  | _ => exact ⟨⟨by simp [Op.do, c], by simp [Op.do, b], l, by simp [Op.do]; omega⟩, rfl⟩
theorem step_iv (h : Iv s) : Iv (stepF ws s) ∧ ((stepF ws s).past.length = s.past.length + 1 ∨ ((stepF ws s).past = s.past ∧ (stepF ws s).why ≠ "")) := by
  unfold stepF
  cases q : rowF ws s.place with
  | none => exact ⟨⟨h.c, h.b, h.l, h.y⟩, .inr ⟨rfl, by dsimp only; split <;> decide⟩⟩
  | some r =>
    obtain ⟨h1, h2⟩ := do_iv (opOf r) h s.place
    refine ⟨h1, .inl ?_⟩
    show ((opOf r).do { s with past := s.past ++ [s.place] }).past.length = _
    rw [h2]; simp
def goF (most : Nat) (s : Mc) : Bool := decide (s.why = "") && decide (s.past.length < most)
def muF (most : Nat) (s : Mc) : Nat := (if s.why = "" then 1 else 0) + (most - s.past.length)
/-- states that the loops reach -/
structure Reach (ws : List Int) (most : Nat) (s : Mc) : Prop where
  iv : Iv s
  p : s.past.length ≤ most
theorem reach_step {most : Nat} (h : Reach ws most s) (g : goF most s = true) : Reach ws most (stepF ws s) ∧ muF most (stepF ws s) < muF most s := by
  obtain ⟨g1, g2⟩ := ba2 g
  have g1 := of_decide_eq_true g1
  have g2 := of_decide_eq_true g2
  obtain ⟨i, z⟩ := step_iv (ws := ws) h.iv
  refine ⟨⟨i, ?_⟩, ?_⟩
  · rcases z with z | ⟨z, _⟩
    · omega
    · rw [z]; exact h.p
  · unfold muF
    rw [if_pos g1]
    rcases z with z | ⟨z, n⟩
    · split <;> omega
    · rw [if_neg n, z]; omega
def finF (ws : List Int) (b : Int) (most : Nat) : Mc := iter (goF most) (stepF ws) (most + 1) (initF ws b)
theorem init_reach {b : Int} {most : Nat} (hl : ws.length ≤ 256) : Reach ws most (initF ws b) := ⟨⟨by simp [initF]; omega, rfl, by simp [initF], by simp [initF]⟩, by simp [initF]⟩
/-- the object as the whole run leaves it -/
theorem run_ok (H : RunF F) {b : Int} {most : Nat} (hw : Ws ws) (hl : ws.length ≤ 256) (hb0 : 0 ≤ b) (hb1 : b < 256) (hm : most ≤ 1000) :
    run F (k + 6) 13 [.t (tl ws), .t (.int b), .t (.int most)] [] = .ok (.tup [.ref 4, .t (.str (Str.ofString (finF ws b most).why)), .ref 5]) (MA ws (finF ws b most)) := by
  rw [run_at H.h13]
  have key := whl_sim (c := evT (run F (k + 5)) (.and [(.cmp .eq (.attr 0 (.var 3) "why") (.con (.str ""))), (.cmp .lt (.bi .len [(.attr 0 (.var 3) "past")]) (.var 2))])) (b := evB (run F (k + 5)) f_run_B0)
    (fun (s : {s : Mc // Reach ws most s}) r M => r = [some (.t (tl ws)), some (.t (.int b)), some (.t (.int most)), some (.ref 0)] ∧ M = MA ws s.1)
    (fun s => goF most s.1) (fun s => if h : goF most s.1 = true then ⟨stepF ws s.1, (reach_step s.2 h).1⟩ else s) (fun s => muF most s.1)
    (fun s r M h => by
      obtain ⟨rfl, rfl⟩ := h
      unfold goF
      by_cases h1 : s.1.why = "" <;> by_cases h2 : s.1.past.length < most <;> simp_arith! [MA, h1, h2])
    (fun s r M h g => by
      obtain ⟨rfl, rfl⟩ := h
      have g' : goF most s.1 = true := g
      have hp : s.1.past.length < most := of_decide_eq_true (ba2 g').2
      have st := step_ok (k := k + 1) H hw (s.2.iv.ok (by omega)) (by omega)
      refine ⟨_, MA ws (stepF ws s.1), ?_, rfl, by rw [dif_pos g']⟩
      simp only [MA] at st ⊢
      simp_arith! [f_run_B0, st])
    (fun s g => by
      have g' : goF most s.1 = true := g
      show muF most (if h : goF most s.1 = true then (⟨stepF ws s.1, (reach_step s.2 h).1⟩ : {s : Mc // Reach ws most s}) else s).1 < _
      rw [dif_pos g']
      exact (reach_step s.2 g').2)
    (most + 1) wfuel ⟨initF ws b, init_reach hl⟩ _ _ (by show muF most (initF ws b) ≤ _; unfold muF initF; simp; omega) (by unfold wfuel; omega) ⟨rfl, rfl⟩
  obtain ⟨r', M', e, rfl, rfl⟩ := key
  have it : ∀ n (s : {s : Mc // Reach ws most s}), (iter (fun s : {s : Mc // Reach ws most s} => goF most s.1) (fun s => if h : goF most s.1 = true then ⟨stepF ws s.1, (reach_step s.2 h).1⟩ else s) n s).1 = iter (goF most) (stepF ws) n s.1 := by
    intro n
    induction n with
    | zero => intro s; rfl
    | succ n ih =>
      intro s
      unfold iter
      by_cases g : goF most s.1 = true
      · rw [if_pos g, if_pos g, ih, dif_pos g]
      · rw [if_neg g, if_neg g]
  rw [it] at e
  have e2 : evS (run F (k + 5)) f_run_L0 [some (.t (tl ws)), some (.t (.int b)), some (.t (.int most)), some (.ref 0)] (MA ws (initF ws b)) = .ok (.nx [some (.t (tl ws)), some (.t (.int b)), some (.t (.int most)), some (.ref 0)]) (MA ws (finF ws b most)) := by
    unfold f_run_L0
    rw [evS_whl]
    exact e
  have hn := fun M => need_words_call (k := k + 3) (M := M) H.c hw hl
  have hi := mInit_ok (k := k + 4) H (b := b) hl
  have hb2 : b ≤ 255 := by omega
  have hm2 : (most : Int) ≤ 1000 := by omega
  have n1 := fun M => callV_clean (G := run F (k + 5)) (f := 0) (ds := [.t (.int b), .t (.int 0), .t (.int 255)]) (ts := [.int b, .int 0, .int 255]) (M := M) rfl (isnum_ok (k := k + 4) H.c) (snap_t _ _ _)
  have n2 := fun M => callV_clean (G := run F (k + 5)) (f := 0) (ds := [.t (.int most), .t (.int 0), .t (.int 1000)]) (ts := [.int most, .int 0, .int 1000]) (M := M) rfl (isnum_ok (k := k + 4) H.c) (snap_t _ _ _)
  rw [decide_eq_true hb0, decide_eq_true hb2] at n1
  rw [decide_eq_true (show (0 : Int) ≤ most by omega), decide_eq_true hm2] at n2
  have l1 := fun M => list_tl (M := M) (ws := ws)
  simp only [MA] at hi e2 ⊢
  simp_arith! [f_run, hn, n1, n2, l1, hi, e2, -biV]
end
end Rw
end
section
set_option Elab.async false
set_option linter.all false
set_option maxRecDepth 100000
set_option maxHeartbeats 0
namespace Rw.K14
open PySem Rw Rw.Pr
/-- a place that is done with -/
def Seen (ws : List Int) (t : Tr) (p : Int) : Prop := p ∈ t.rows.map (·.1) ∨ (∃ f, (f, p) ∈ t.apart) ∨ rowF ws p = none
structure Cl (ws bs : List Int) (t : Tr) (wl : List (Int × Int)) : Prop where
  b : ∀ p ∈ bs, Seen ws t p ∨ ∃ f, (p, f) ∈ wl
  r : ∀ (p : Int) (o : Op), (p, o.row) ∈ t.rows → ∀ q ∈ newG p o, Seen ws t q.1 ∨ ∃ f, (q.1, f) ∈ wl
  n : t.apart.length + wl.length ≤ 16 + (t.rows.length + t.inner.length)
section
variable {ws bs : List Int} {t t' : Tr} {wl res : List (Int × Int)} {z : Int × Int}
theorem seen_mono (c : Come ws t z t' res) {p : Int} (h : Seen ws t p) : Seen ws t' p := by
  cases c with
  | out _ => exact h
  | non _ _ _ _ _ => exact h
  | inn _ _ _ _ =>
    rcases h with h | ⟨f, h⟩ | h
    · exact .inl h
    · exact .inr (.inl ⟨f, List.mem_append_left _ h⟩)
    · exact .inr (.inr h)
  | over _ _ _ _ _ _ _ =>
    rcases h with h | ⟨f, h⟩ | h
    · exact .inl h
    · exact .inr (.inl ⟨f, List.mem_append_left _ h⟩)
    · exact .inr (.inr h)
  | new _ _ _ _ _ _ _ =>
    rcases h with h | ⟨f, h⟩ | h
    · refine .inl ?_
      unfold newT
      rw [List.map_append]
      exact List.mem_append_left _ h
    · exact .inr (.inl ⟨f, h⟩)
    · exact .inr (.inr h)
theorem seen_self (c : Come ws t z t' res) : Seen ws t' z.1 := by
  cases c with
  | out h =>
    rcases h with h | h
    · refine .inr (.inr ?_)
      unfold rowF
      rw [if_neg h]
    · exact .inl h
  | non _ _ _ _ h => exact .inr (.inr h)
  | inn _ _ _ _ => exact .inr (.inl ⟨z.2, by simp⟩)
  | over _ _ _ _ _ _ _ => exact .inr (.inl ⟨z.2, by simp⟩)
  | new _ _ _ _ _ _ _ => exact .inl (by simp [newT])
theorem newG_le (p : Int) (o : Op) : (newG p o).length ≤ 1 + o.mn := by
  cases o <;> simp [newG, goalsF, Op.mn]
theorem fur_len (p : Int) (m : Nat) : (fur p m).length = m := by simp [fur]
theorem cl0 (hb : bs.length ≤ 16) : Cl ws bs ⟨[], [], []⟩ (bs.map fun b => (b, -1)) :=
  ⟨fun p hp => .inr ⟨-1, List.mem_map.mpr ⟨p, hp, rfl⟩⟩, fun p o h => (nomatch h), by simp; omega⟩
theorem filt_lt (hz : z ∈ wl) : (wl.filter fun u => !decide (u = z)).length + 1 ≤ wl.length := by
  have := List.length_filter_lt_length_iff_exists (p := fun u => !decide (u = z)) (l := wl) |>.mpr ⟨z, hz, by simp⟩
  omega
theorem cl_step (h : Cl ws bs t wl) (hz : z ∈ wl) (c : Come ws t z t' res) : Cl ws bs t' (wl.filter (fun u => !decide (u = z)) ++ res) := by
  have tr : ∀ p, (Seen ws t p ∨ ∃ f, (p, f) ∈ wl) → (Seen ws t' p ∨ ∃ f, (p, f) ∈ wl.filter (fun u => !decide (u = z)) ++ res) := fun p hp => by
    rcases hp with hp | ⟨f, hp⟩
    · exact .inl (seen_mono c hp)
    · by_cases e : (p, f) = z
      · subst e
        exact .inl (seen_self c)
      · exact .inr ⟨f, List.mem_append_left _ (List.mem_filter.mpr ⟨hp, by simp [e]⟩)⟩
  have fl := filt_lt hz
  refine ⟨fun p hp => tr p (h.b p hp), fun p o hp q hq => ?_, ?_⟩
  · cases c with
    | out _ => exact tr _ (h.r p o hp q hq)
    | non _ _ _ _ _ => exact tr _ (h.r p o hp q hq)
    | inn _ _ _ _ => exact tr _ (h.r p o hp q hq)
    | over _ _ _ _ _ _ _ => exact tr _ (h.r p o hp q hq)
    | new _ _ _ _ _ _ _ =>
      rcases List.mem_append.mp hp with hp | hp
      · exact tr _ (h.r p o hp q hq)
      · have e := List.mem_singleton.mp hp
        injection e with e1 e2
        have e3 := Op.row_inj e2
        subst e1 e3
        exact .inr ⟨q.2, List.mem_append_right _ hq⟩
  · have hn := h.n
    rw [List.length_append]
    cases c with
    | out _ => simp; omega
    | non _ _ _ _ _ => simp; omega
    | inn _ _ _ _ => simp; omega
    | over _ _ _ _ _ _ _ => simp; omega
    | @new o _ _ _ _ _ _ _ =>
      have h1 := newG_le z.1 o
      have h2 : (newT t z.1 o).rows.length = t.rows.length + 1 := by simp [newT]
      have h3 : (newT t z.1 o).inner.length = t.inner.length + o.mn := by simp [newT, fur_len]
      have h4 : (newT t z.1 o).apart.length = t.apart.length := rfl
      rw [h2, h3, h4]
      omega
theorem row_fit {p : Int} {r : Row} (h : rowF ws p = some r) : 0 ≤ p ∧ p + r.2.2.2 ≤ ws.length := by
  unfold rowF at h
  split at h
  · rename_i hp
    split at h
    · cases h
    · split at h
      · cases h
      · cases h
        simp only
        omega
  · cases h
theorem row_in (hi : TrInv ws t) {p : Int} (h : p ∈ t.rows.map (·.1)) {o : Op} (hr : rowF ws p = some o.row) : (p, o.row) ∈ t.rows := by
  obtain ⟨⟨p', r⟩, hq, rfl⟩ := List.mem_map.mp h
  obtain ⟨_, _, o', _, e1, e2⟩ := hi.r _ hq
  simp only at e1 e2 hr
  subst e1
  rw [hr] at e2
  rw [Option.some.inj e2]
  exact hq
theorem all_le (hi : TrInv ws t) : t.rows.length + t.inner.length ≤ ws.length := by
  have h := int_len ws.length (t.rows.map (·.1) ++ t.inner.map (·.1)) (List.nodup_append.mpr ⟨hi.nd, hi.ind, fun a ha b hb e => hi.dj b hb (e ▸ ha)⟩) (fun x hx => by
    rcases List.mem_append.mp hx with hx | hx
    · obtain ⟨q, hq, rfl⟩ := List.mem_map.mp hx
      exact ⟨(hi.r q hq).1, (hi.r q hq).2.1⟩
    · obtain ⟨q, hq, rfl⟩ := List.mem_map.mp hx
      obtain ⟨o, h1, h2⟩ := hi.i q hq
      obtain ⟨_, _, o', _, e1, e2⟩ := hi.r _ h1
      have e3 := Op.row_inj e1
      subst e3
      have := row_fit e2
      have h4 := o.mn_eq
      unfold fur at h2
      obtain ⟨j, hj, e⟩ := List.mem_map.mp h2
      have := List.mem_range.mp hj
      omega)
  simpa using h
theorem apart_le (hi : TrInv ws t) (h : Cl ws bs t wl) (hl : ws.length ≤ 256) : t.apart.length ≤ 272 := by
  have := all_le hi
  have := h.n
  omega
theorem Cl.seen (h : Cl ws bs t []) {p : Int} (hp : p ∈ bs) : Seen ws t p := by
  rcases h.b p hp with h | ⟨f, h⟩
  · exact h
  · cases h
theorem Cl.on (h : Cl ws bs t []) {p : Int} {o : Op} (hp : (p, o.row) ∈ t.rows) : ∀ q ∈ newG p o, Seen ws t q.1 := fun q hq => by
  rcases h.r p o hp q hq with h | ⟨f, h⟩
  · exact h
  · cases h
/-- the places of a run that are none of the rows -/
def lostF (t : Tr) (ps : List Int) : List Int := ps.filter fun p => !decide (p ∈ t.rows.map (·.1))
def RunI (ws : List Int) (t : Tr) (s : Mc) : Prop := (lostF t s.past = [] ∧ Seen ws t s.place ∧ ∀ c ∈ s.calls, Seen ws t c) ∨ ∃ p f, (lostF t s.past).head? = some p ∧ (f, p) ∈ t.apart
theorem do_seen {s : Mc} (o : Op) (x : Int) (h1 : ∀ q ∈ newG s.place o, Seen ws t q.1) (h2 : Seen ws t s.place) (h3 : ∀ c ∈ s.calls, Seen ws t c) : Seen ws t (o.do { s with past := s.past ++ [x] }).place ∧ ∀ c ∈ (o.do { s with past := s.past ++ [x] }).calls, Seen ws t c := by
  have one : ∀ m : Nat, (s.place + (1 + (m : Int)), s.place) ∈ newG s.place o → Seen ws t (s.place + (1 + (m : Int))) := fun m h => h1 _ h
  have gl : ∀ g : Int, (g, s.place) ∈ newG s.place o → Seen ws t g := fun g h => h1 _ h
  cases o with
  | take b n => exact ⟨one 0 (by simp [newG, goalsF, Op.mn]), h3⟩
  | takeB b n => exact ⟨one 1 (by simp [newG, goalsF, Op.mn]), h3⟩
  | stop => exact ⟨h2, h3⟩
  | back =>
    by_cases hc : s.calls = []
    · have e : Op.back.do { s with past := s.past ++ [x] } = { s with past := s.past ++ [x], why := "back" } := by simp [Op.do, hc]
      rw [e]
      exact ⟨h2, h3⟩
    · have e : Op.back.do { s with past := s.past ++ [x] } = { s with past := s.past ++ [x], place := s.calls.getLastD 0, calls := s.calls.dropLast } := by simp [Op.do, hc]
      rw [e]
      refine ⟨h3 _ ?_, fun c hc => h3 c (List.dropLast_subset _ hc)⟩
      show s.calls.getLastD 0 ∈ s.calls
      rw [List.getLastD_eq_getLast?, List.getLast?_eq_some_getLast hc]
      exact List.getLast_mem hc
  | say b => exact ⟨one 0 (by simp [newG, goalsF, Op.mn]), h3⟩
  | move b c => exact ⟨one 0 (by simp [newG, goalsF, Op.mn]), h3⟩
  | add b c => exact ⟨one 0 (by simp [newG, goalsF, Op.mn]), h3⟩
  | less b c => exact ⟨one 0 (by simp [newG, goalsF, Op.mn]), h3⟩
  | load b n => exact ⟨one 1 (by simp [newG, goalsF, Op.mn]), h3⟩
  | store b n => exact ⟨one 1 (by simp [newG, goalsF, Op.mn]), h3⟩
  | jump n => exact ⟨gl n (by simp [newG, goalsF]), h3⟩
  | call n =>
    by_cases hc : s.calls.length = 16
    · have e : (Op.call n).do { s with past := s.past ++ [x] } = { s with past := s.past ++ [x], why := "deep" } := by simp [Op.do, hc]
      rw [e]
      exact ⟨h2, h3⟩
    · have e : (Op.call n).do { s with past := s.past ++ [x] } = { s with past := s.past ++ [x], calls := s.calls ++ [s.place + 2], place := n } := by simp [Op.do, hc]
      rw [e]
      refine ⟨gl n (by simp [newG, goalsF]), fun c hc => ?_⟩
      rcases List.mem_append.mp hc with hc | hc
      · exact h3 c hc
      · rw [List.mem_singleton.mp hc]
        exact one 1 (by simp [newG, goalsF, Op.mn])
  | skip n => exact ⟨gl (s.place + 2 + (if n ≥ 128 then n - 256 else n)) (by simp [newG, goalsF]), h3⟩
  | zero b n =>
    refine ⟨?_, h3⟩
    show Seen ws t (if at_ s.boxes b = 0 then n else s.place + 2)
    split
    · exact gl n (by simp [newG, goalsF])
    · exact one 1 (by simp [newG, goalsF, Op.mn])
  | same b c n =>
    refine ⟨?_, h3⟩
    show Seen ws t (if at_ s.boxes b = at_ s.boxes c then n else s.place + 2)
    split
    · exact gl n (by simp [newG, goalsF])
    · exact one 1 (by simp [newG, goalsF, Op.mn])
  | copy n m => exact ⟨one 2 (by simp [newG, goalsF, Op.mn]), h3⟩
theorem do_past {s : Mc} (o : Op) (x : Int) : (o.do { s with past := s.past ++ [x] }).past = s.past ++ [x] := by
  cases o with
  | back => by_cases hc : s.calls = [] <;> simp [Op.do, hc]
  | call n => by_cases hc : s.calls.length = 16 <;> simp [Op.do, hc]
  | _ => rfl
theorem step_seen (hw : Ws ws) (hi : TrInv ws t) (h : Cl ws bs t []) {s : Mc} (hs : RunI ws t s) : RunI ws t (stepF ws s) := by
  cases q : rowF ws s.place with
  | none =>
    have e : stepF ws s = { s with why := if 0 ≤ s.place ∧ s.place < ws.length then "none" else "end" } := by unfold stepF; rw [q]
    rw [e]
    exact hs
  | some r =>
    obtain ⟨o, hg, rfl⟩ := row_op hw q
    have e : stepF ws s = o.do { s with past := s.past ++ [s.place] } := by unfold stepF; rw [q]; show (opOf o.row).do _ = _; rw [opOf_row]
    rw [e]
    unfold RunI
    rw [do_past]
    rcases hs with ⟨a1, a2, a3⟩ | ⟨p, f, a1, a2⟩
    · have ap : lostF t (s.past ++ [s.place]) = lostF t [s.place] := by
        unfold lostF at a1 ⊢
        rw [List.filter_append, a1, List.nil_append]
      rw [ap]
      by_cases hm : s.place ∈ t.rows.map (·.1)
      · refine .inl ⟨?_, do_seen o _ (h.on (row_in hi hm q)) a2 a3⟩
        simp only [lostF, List.filter_cons, decide_eq_true hm]
        rfl
      · rcases a2 with z | ⟨f, z⟩ | z
        · exact absurd z hm
        · refine .inr ⟨s.place, f, ?_, z⟩
          simp only [lostF, List.filter_cons, decide_eq_false hm]
          rfl
        · rw [q] at z
          cases z
    · refine .inr ⟨p, f, ?_, a2⟩
      unfold lostF at a1 ⊢
      rw [List.filter_append, List.head?_append, a1]
      rfl
theorem run_seen (hw : Ws ws) (hi : TrInv ws t) (h : Cl ws bs t []) {b : Int} (hb : b ∈ bs) (most : Nat) : lostF t (finF ws b most).past = [] ∨ ∃ p f, (lostF t (finF ws b most).past).head? = some p ∧ (f, p) ∈ t.apart := by
  have z : RunI ws t (finF ws b most) := iter_inv (RunI ws t) (fun s hs _ => step_seen hw hi h hs) _ _ (.inl ⟨rfl, h.seen hb, fun c hc => nomatch hc⟩)
  rcases z with z | z
  · exact .inl z.1
  · exact .inr z
/-- fewer places to begin at -/
structure Fw (ws : List Int) (t t1 : Tr) (wl : List (Int × Int)) : Prop where
  r : ∀ q ∈ t1.rows, q.1 ∈ t.rows.map (·.1)
  w : ∀ q ∈ wl, Seen ws t q.1
theorem fw_step {t1 t1' : Tr} (hi : TrInv ws t) (h : Cl ws bs t []) (ha : t.apart = []) (f : Fw ws t t1 wl) (hz : z ∈ wl) (c : Come ws t1 z t1' res) : Fw ws t t1' (wl.filter (fun u => !decide (u = z)) ++ res) := by
  have hf : ∀ q ∈ wl.filter (fun u => !decide (u = z)), Seen ws t q.1 := fun q hq => f.w q (List.mem_filter.mp hq).1
  cases c with
  | out _ => exact ⟨f.r, by simpa using fun a b hab _ => f.w (a, b) hab⟩
  | non _ _ _ _ _ => exact ⟨f.r, by simpa using fun a b hab _ => f.w (a, b) hab⟩
  | inn _ _ _ _ => exact ⟨f.r, by simpa using fun a b hab _ => f.w (a, b) hab⟩
  | over _ _ _ _ _ _ _ => exact ⟨f.r, by simpa using fun a b hab _ => f.w (a, b) hab⟩
  | @new o _ _ _ _ _ hr _ =>
    have hm : z.1 ∈ t.rows.map (·.1) := by
      rcases f.w z hz with y | ⟨g, y⟩ | y
      · exact y
      · rw [ha] at y
        cases y
      · rw [hr] at y
        cases y
    refine ⟨fun q hq => ?_, fun q hq => ?_⟩
    · rcases List.mem_append.mp hq with hq | hq
      · exact f.r q hq
      · rw [List.mem_singleton.mp hq]
        exact hm
    · rcases List.mem_append.mp hq with hq | hq
      · exact hf q hq
      · exact h.on (row_in hi hm hr) q hq
theorem fw0 (h : Cl ws bs t []) {b1 : List Int} (hb : ∀ b ∈ b1, b ∈ bs) : Fw ws t ⟨[], [], []⟩ (b1.map fun b => (b, -1)) := ⟨fun q hq => (nomatch hq), fun q hq => by
  obtain ⟨b, h1, rfl⟩ := List.mem_map.mp hq
  exact h.seen (hb b h1)⟩
end
end Rw.K14
end
section
set_option Elab.async false
set_option linter.all false
set_option maxRecDepth 100000
set_option maxHeartbeats 0
namespace Rw
open PySem Rw.Pr
/-- the name of a place -/
def nmT (p : Nat) : List Nat := [108, 97 + p / 16, 97 + p % 16]
section
variable {F : Nat → Option Fn} {k : Nat} {M : Ar} {ws bs : List Int} {t : Tr} {X : Ar}
theorem base_in (hT : TrInv ws t) {p : Int} (h0 : 0 ≤ p) (h1 : p < ws.length) : 0 ≤ baseF t p ∧ baseF t p < ws.length ∧ baseF t p ≤ p ∧ p ≤ baseF t p + 2 := by
  unfold baseF
  cases e : t.inner.lookup p with
  | none => exact ⟨h0, h1, Int.le_refl _, by show p ≤ p + 2; omega⟩
  | some b =>
    obtain ⟨o, h2, h3⟩ := hT.i _ (look_mem e)
    obtain ⟨h4, h5, _⟩ := hT.r _ h2
    have hm := o.mn_le
    unfold fur at h3
    obtain ⟨j, hj, e2⟩ := List.mem_map.mp h3
    have := List.mem_range.mp hj
    simp only at h4 h5 e2
    show 0 ≤ b ∧ b < ws.length ∧ b ≤ p ∧ p ≤ b + 2
    omega
def addN (nl : List Int) (i : Int) : List Int := if i ∈ nl then nl else nl ++ [i]
/-- a goal that has a name -/
def addG (ws : List Int) (t : Tr) (nl : List Int) (g : Int) : List Int := if 0 ≤ g ∧ g < ws.length then addN nl (baseF t g) else nl
end
end Rw
end
section
set_option Elab.async false
set_option linter.all false
set_option maxRecDepth 100000
set_option maxHeartbeats 0
namespace Rw
open PySem Rw.Pr
end Rw
end
section
set_option Elab.async false
set_option linter.all false
set_option maxRecDepth 100000
set_option maxHeartbeats 0
namespace Rw
open PySem Rw.Pr
theorem seq1 {G : Cal} {s : Sm} {ss : List Sm} {r r' : En} {M M' : Ar} (h : evS G s r M = .ok (.nx r') M') : evB G (s :: ss) r M = evB G ss r' M' := by rw [xB1, h, kSeq_k0]
theorem asg_at {G : Cal} {i : Nat} {e : Ex} {r : En} {M M' : Ar} {d : D} (h : evE G e r M = .ok d M') (hi : i < r.length) : evS G (.asg (.var i) e) r M = .ok (.nx (r.set i (some d))) M' := by
  rw [xAsg, h, kAsg_k0]
  simp only [asg, if_pos hi]
theorem comp_at {G : Cal} {mu : Bool} {tg : Tg} {s : Sr} {c : Option Ex} {e : Ex} {r : En} {M M0 M1 : Ar} {l vs : List D} (h1 : evSr G s r M = .ok (.fix l) M0) (h2 : cmpF (cmpBody G tg c e r) l [] M0 = .ok vs M1) : evE G (.comp mu tg s c e) r M = mkL mu vs M1 := by
  rw [xComp, h1, kCo2_k0, xCI, h2, kCo3_k0]
section
variable {F : Nat → Option Fn} {k : Nat} {M : Ar} {ws bs : List Int} {t : Tr} {X : Ar}
structure RwOk (r : Row) : Prop where
  b : ∀ b ∈ r.2.1, 0 ≤ b ∧ b < 4
  bl : r.2.1.length ≤ 2
  n : ∀ n ∈ r.2.2.1, 0 ≤ n ∧ n < 256
  nl : r.2.2.1.length ≤ 2
  m : 0 ≤ r.2.2.2 ∧ r.2.2.2 ≤ 3
  one : r.1 = "take!" ∨ r.1 = "skip" ∨ r.1 = "jump" ∨ r.1 = "call" ∨ r.1 = "zero" ∨ r.1 = "same" → ∃ n, r.2.2.1 = [n]
  op : (cs r.1).length ≤ 5
end
end Rw
end
section
set_option Elab.async false
set_option linter.all false
set_option maxRecDepth 100000
set_option maxHeartbeats 0
namespace Rw
open PySem Rw.Pr
section
variable {F : Nat → Option Fn} {k : Nat} {M : Ar} {ws bs : List Int} {t : Tr}
def apF (t : Tr) : List (Int × Int) := sortP (ndP t.apart)
theorem ev_setSort {G : Cal} {e : Ex} {r : En} {M M1 M2 : Ar} {x d : D} (h1 : evE G e r M = .ok x M1) (h2 : setSortV x M1 = .ok d M2) : evE G (.setSort e) r M = .ok d M2 := by
  have : evE G (.setSort e) r M = (evE G e r M).bind fun x M => setSortV x M := by simp only [evE]
  rw [this, h1]
  exact h2
theorem prI_all : ∀ l : List (Int × Int), mapO prI ((l.map fun q => T.tup [.int q.1, .int q.2]).map D.t) = some l
  | [] => rfl
  | q :: l => by
    rw [List.map_cons, List.map_cons]
    have e : prI (D.t (T.tup [.int q.1, .int q.2])) = some q := rfl
    simp only [mapO, e, prI_all l]
theorem sort_apZ (h : t.apart.length ≤ 300) : setSortV (.t (apZ t)) M = .ok (.t (.lst ((apF t).map pr2T))) M := by
  unfold setSortV
  have e : lsOf M (.t (apZ t)) = some ((t.apart.map fun q => T.tup [.int q.1, .int q.2]).map D.t) := rfl
  rw [e, Option.bind_some, prI_all]
  simp only [decide_eq_true h]
  rfl
theorem middles_ok (H : TraF F) (h81 : F 81 = some f_middles) (hw : Ws ws) (hs : ws.length ≤ 256) (hbw : Ws bs) (hb : bs.length ≤ 16) (ha : t.apart.length ≤ 300) (hm : ∀ M, makeFV (run F (k + 4)) 1 70 [.t (tl ws), .t (tl bs)] M = .ok (.t (trT ws t)) M) : callV (run F (k + 5)) .clean 81 [.t (tl ws), .t (tl bs)] M = .ok (.t (.lst ((apF t).map pr2T))) M := by
  have c1 := fun M => need_words_call (k := k + 2) (M := M) H.c hw hs
  have c2 := fun M => need_begins_call (k := k + 2) (M := M) H.c H.h69 hbw hb
  have a1 := fun M => tr_apart (M := M) (ws := ws) (t := t)
  have s1 := fun M => sort_apZ (M := M) ha
  refine callV_clean (ts := [tl ws, tl bs]) (M1 := []) (d := .t (.lst ((apF t).map pr2T))) rfl ?_ (snap_t _ _ _)
  show run F (k + 5) 81 [.t (tl ws), .t (tl bs)] [] = _
  rw [run_at h81]
  have e1 : evE (run F (k + 4)) (.setSort (.attr 1 (.makeF 1 70 [(.bi (.list false) [(.var 0)]), (.var 1)]) "apart")) [some (.t (tl ws)), some (.t (tl bs))] [] = .ok (.t (.lst ((apF t).map pr2T))) [] := by
    refine ev_setSort (x := .t (apZ t)) (M1 := []) ?_ (s1 _)
    generalize apZ t = AZ at *
    generalize trT ws t = TT at *
    simp_arith [list_tl, hm, a1, -biV]
  generalize (apF t).map pr2T = LL at *
  generalize apZ t = AZ at *
  generalize trT ws t = TT at *
  generalize tl ws = TW at *
  generalize tl bs = TB at *
  simp_arith [f_middles, c1, c2, e1]
theorem apF_mem {q : Int × Int} : q ∈ apF t ↔ q ∈ t.apart := by
  unfold apF
  rw [(sortP_perm _).mem_iff, ndP_mem]
end
end Rw
end
section
set_option Elab.async false
set_option linter.all false
set_option maxRecDepth 100000
set_option maxHeartbeats 0
namespace Rw
open PySem Rw.Pr
end Rw
end
section
set_option Elab.async false
set_option linter.all false
set_option maxRecDepth 100000
set_option maxHeartbeats 0
namespace Rw
open PySem Rw.Pr
end Rw
end
section
set_option Elab.async false
set_option linter.all false
set_option maxRecDepth 100000
set_option maxHeartbeats 0
namespace Rw
open PySem Rw.Pr
end Rw
end
section
set_option Elab.async false
set_option linter.all false
set_option maxRecDepth 100000
set_option maxHeartbeats 0
namespace Rw
open PySem Rw.Pr
section
variable {F : Nat → Option Fn} {k : Nat} {M : Ar} {ws bs nl : List Int} {t : Tr}
/-- a place's sum -/
def ptS (ws : List Int) (t : Tr) (g : Int) : List Tm := if 0 ≤ g ∧ g < ws.length then (if baseF t g < g then [(1, .inr (nmT (baseF t g).toNat)), (1, .inl (g - baseF t g))] else [(1, .inr (nmT (baseF t g).toNat))]) else if 0 ≤ g then [(1, .inl g)] else [(-1, .inl (-g))]
end
end Rw
end
section
set_option Elab.async false
set_option linter.all false
set_option maxRecDepth 100000
set_option maxHeartbeats 0
namespace Rw
open PySem Rw.Pr
end Rw
end
section
set_option Elab.async false
set_option linter.all false
set_option maxRecDepth 100000
set_option maxHeartbeats 0
namespace Rw
open PySem Rw.Pr
section
variable {F : Nat → Option Fn} {k : Nat} {ws bs nl : List Int} {t : Tr} {W : List Nat → Int}
theorem nm_here {p : Nat} : nmT p ≠ here := by
  intro e
  have h : here = [104, 101, 114, 101] := by decide +kernel
  rw [h] at e
  unfold nmT at e
  simp at e
/-- names of places are worth their places -/
def NmW (nl : List Int) (W : List Nat → Int) : Prop := ∀ q ∈ nl, W (nmT q.toNat) = q
theorem pt_val (hT : TrInv ws t) (hW : NmW nl W) {p g : Int} (hg : 0 ≤ g → g < ws.length → baseF t g ∈ nl) : smV W p (ptS ws t g) = g := by
  unfold ptS
  by_cases h : 0 ≤ g ∧ g < ws.length
  · rw [if_pos h]
    obtain ⟨b0, b1, b2, b3⟩ := base_in hT h.1 h.2
    have e := hW _ (hg h.1 h.2)
    by_cases hb : baseF t g < g
    · rw [if_pos hb]
      simp only [smV, tmV, List.map_cons, List.map_nil, List.sum_cons, List.sum_nil, if_neg nm_here, e]
      omega
    · rw [if_neg hb]
      simp only [smV, tmV, List.map_cons, List.map_nil, List.sum_cons, List.sum_nil, if_neg nm_here, e]
      omega
  · rw [if_neg h]
    split
    · simp [smV, tmV]
    · simp [smV, tmV]
end
end Rw
end
section
set_option Elab.async false
set_option linter.all false
set_option maxRecDepth 100000
set_option maxHeartbeats 0
namespace Rw
open PySem Rw.Pr
end Rw
end
section
set_option Elab.async false
set_option linter.all false
set_option maxRecDepth 100000
set_option maxHeartbeats 0
namespace Rw
open PySem Rw.Pr
end Rw
end
section
set_option Elab.async false
set_option linter.all false
set_option maxRecDepth 100000
set_option maxHeartbeats 0
namespace Rw.Lr
open PySem Rw.Pr
section
variable (ws : List Int) (p w : Int)
def hT (op : String) (bx : List Int) (more : Int) : T := if p + more ≥ ws.length then .non else .tup [.str (Str.ofString op), tl bx, tl (cut ws (some (p + 1)) (some (p + 1 + more))), .int (1 + more)]
def en (a b c d e f : Option D) : En := [some (.t (tl ws)), some (.t (.int p)), some (.t (.int w)), a, b, c, d, e, f]
variable {ws p w} {G : Cal} {op : String} {base more one two : Int} {x y : Option D}
abbrev iD (i : Int) : Option D := some (.t (.int i))
abbrev sD (s : String) : Option D := some (.t (.str (Str.ofString s)))
theorem rng1 : rngL 0 1 = [.t (.int 0)] := by rfl
theorem forF_nx {b : D → En → Ar → Res Fl} {d : D} {l : List D} {r r' : En} {M M' : Ar} (h : b d r M = .ok (.nx r') M') : forF b (d :: l) r M = forF b l r' M' := by
  conv => lhs; unfold forF
  rw [h]; rfl
theorem sr2 : evSr G (.rng [(.ife (.cmp .gt (.var 5) (.con (.int 1))) (.con (.int 4)) (.con (.int 1)))]) (en ws p w (sD op) (iD base) (iD 2) (iD more) x y) [] = .ok (.fix (rngL 0 4)) [] := by
  simp_arith [en, srRng, small]
theorem sr4 {many : Int} (hm : many = 1 ∨ many = 2) : evSr G (.rng [(.ife (.cmp .gt (.var 5) (.con (.int 0))) (.con (.int 4)) (.con (.int 1)))]) (en ws p w (sD op) (iD base) (iD many) (iD more) x y) [] = .ok (.fix (rngL 0 4)) [] := by
  rcases hm with rfl | rfl <;> simp_arith [en, srRng, small]
/-- the turns of the first box -/
theorem b1 {d : D} {a b c e : Option D} : forBody G (.var 7) f__law_read_B1 d (en ws p w a b c e x y) [] = evB G [f__law_read_L0] (en ws p w a b c e (some d) y) [] := by
  simp [forBody, asg, en, f__law_read_B1]
end
abbrev Code : Type := String × Int × Nat × Int
def cT (c : Code) : T := .tup [.str (Str.ofString c.1), .int c.2.1, .int c.2.2.1, .int c.2.2.2]
def cds : List Code := [("stop", 0, 0, 0), ("back", 1, 0, 0), ("say", 4, 1, 0), ("take!", 16, 1, 1), ("move", 32, 2, 0), ("add", 48, 2, 0), ("less", 64, 2, 0), ("load", 80, 1, 1), ("store", 84, 1, 1), ("jump", 96, 0, 1), ("call", 97, 0, 1), ("skip", 99, 0, 1), ("zero", 100, 1, 1), ("same", 112, 2, 1), ("copy", 128, 0, 2)]
theorem codes_all (G : Cal) : okT (fnV G f__law_all_codes [] []) (.lst (cds.map cT)) = true := by kernel_rfl
theorem codes_ok {F : Nat → Option Fn} (h86 : F 86 = some f__law_all_codes) (k : Nat) : run F (k + 1) 86 [] [] = .ok (.t (.lst (cds.map cT))) [] := by
  rw [run_at h86]
  exact okT_ok (codes_all _)
theorem b2 {ws : List Int} {p w : Int} {G : Cal} {c : Code} {x1 x2 x3 x4 x5 x6 : Option D} : forBody G (.tup [(.var 3), (.var 4), (.var 5), (.var 6)]) f__law_read_B2 (.t (cT c)) (en ws p w x1 x2 x3 x4 x5 x6) [] = evB G [f__law_read_L1] (en ws p w (sD c.1) (iD c.2.1) (iD c.2.2.1) (iD c.2.2.2) x5 x6) [] := by
  simp [forBody, asg, asgs, en, f__law_read_B2, cT, tpO_tup]
end Rw.Lr
end
section
set_option Elab.async false
set_option linter.all false
set_option maxRecDepth 100000
set_option maxHeartbeats 0
namespace Rw
open PySem Rw.Pr
end Rw
end
section
set_option Elab.async false
set_option linter.all false
set_option maxRecDepth 100000
set_option maxHeartbeats 0
namespace Rw
open PySem Rw.Pr
theorem il_appD (a b : List Int) : il (a ++ b) = il a ++ il b := by unfold il; rw [List.map_append]
end Rw
end
section
set_option Elab.async false
set_option linter.all false
set_option maxRecDepth 100000
set_option maxHeartbeats 0
namespace Rw
open PySem Rw.Pr
end Rw
end
section
set_option Elab.async false
set_option linter.all false
set_option maxRecDepth 100000
set_option maxHeartbeats 0
namespace Rw
open PySem Rw.Pr
inductive All2 {α β : Type} (Q : α → β → Prop) : List α → List β → Prop
  | nil : All2 Q [] []
  | cons {a b l m} : Q a b → All2 Q l m → All2 Q (a :: l) (b :: m)
theorem All2.len {α β : Type} {Q : α → β → Prop} {l : List α} {m : List β} (h : All2 Q l m) : m.length = l.length := by
  induction h with
  | nil => rfl
  | cons _ _ ih => simp [ih]
theorem All2.right {α β : Type} {Q : α → β → Prop} {R : β → Prop} {l : List α} {m : List β} (h : All2 Q l m) (hr : ∀ a ∈ l, ∀ b, Q a b → R b) : ∀ b ∈ m, R b := by
  induction h with
  | nil => exact fun _ h => nomatch h
  | cons q _ ih =>
    intro b hb
    rcases List.mem_cons.mp hb with rfl | hb
    · exact hr _ List.mem_cons_self _ q
    · exact ih (fun a ha => hr a (List.mem_cons_of_mem _ ha)) b hb
theorem All2.get {α β : Type} {Q : α → β → Prop} {l : List α} {m : List β} (h : All2 Q l m) : ∀ (i : Nat) (a : α) (b : β), l[i]? = some a → m[i]? = some b → Q a b := by
  induction h with
  | nil => intro i a b h; simp at h
  | cons q _ ih =>
    intro i a b h1 h2
    cases i with
    | zero => simp at h1 h2; subst h1; subst h2; exact q
    | succ i => simp at h1 h2; exact ih i a b h1 h2
/-- a comprehension that draws -/
theorem comp_draw {α β : Type} {ns : List Int} {rest : Ar} {b : D → Ar → Res (Option D)} {g : α → D} {h : β → D} {Q : α → β → Prop} : ∀ (l : List α) (acc : List D) (o : MO), Stt ns o → (∀ a ∈ l, ∀ o, Stt ns o → ∃ x o', b (g a) (o :: rest) = .ok (some (h x)) (o' :: rest) ∧ Stt ns o' ∧ Q a x) → acc.length + l.length ≤ line →
    ∃ (xs : List β) (o' : MO), cmpF b (l.map g) acc (o :: rest) = .ok (acc ++ xs.map h) (o' :: rest) ∧ Stt ns o' ∧ All2 Q l xs
  | [], acc, o, hs, _, _ => ⟨[], o, by simp [cmpF], hs, .nil⟩
  | a :: l, acc, o, hs, hb, hl => by
    obtain ⟨x, o1, e1, s1, q1⟩ := hb a List.mem_cons_self o hs
    rw [List.length_cons] at hl
    obtain ⟨xs, o2, e2, s2, q2⟩ := comp_draw l (acc ++ [h x]) o1 s1 (fun a ha => hb a (List.mem_cons_of_mem _ ha)) (by simp; omega)
    refine ⟨x :: xs, o2, ?_, s2, .cons q1 q2⟩
    rw [List.map_cons, xCF1, e1, kCF_k1, decide_eq_true (show acc.length < line by omega)]
    show cmpF b (l.map g) (acc ++ [h x]) (o1 :: rest) = _
    rw [e2]
    simp
end Rw
end
section
set_option Elab.async false
set_option linter.all false
set_option maxRecDepth 100000
set_option maxHeartbeats 0
namespace Rw
open PySem Rw.Pr
section
variable {F : Nat → Option Fn} {k : Nat} {M : Ar}
variable {rs : List RowS} {wks : List (List Int)}
theorem All2.at {α β : Type} {Q : α → β → Prop} {l : List α} {m : List β} (h : All2 Q l m) : ∀ (i : Nat) (a : α), l[i]? = some a → ∃ b, m[i]? = some b ∧ Q a b := by
  induction h with
  | nil => intro i a h; simp at h
  | cons q _ ih =>
    intro i a h1
    cases i with
    | zero => simp at h1; subst h1; exact ⟨_, rfl, q⟩
    | succ i => simp at h1; obtain ⟨b, h2, h3⟩ := ih i a h1; exact ⟨b, by simpa using h2, h3⟩
end
end Rw
end
section
set_option Elab.async false
set_option linter.all false
set_option maxRecDepth 100000
set_option maxHeartbeats 0
namespace Rw
open PySem Rw.Pr
abbrev Rd : Type := Option (String × List Nat × List Wt) × List Int
end Rw
end
section
set_option Elab.async false
set_option linter.all false
set_option maxRecDepth 100000
set_option maxHeartbeats 0
namespace Rw
open PySem Rw.Pr
end Rw
end
section
set_option Elab.async false
set_option linter.all false
set_option maxRecDepth 100000
set_option maxHeartbeats 0
namespace Rw
open PySem Rw.Pr
theorem small_in {i : Int} (h0 : -4611686018427387904 ≤ i) (h1 : i < 4611686018427387904) : small i = true := by
  unfold small
  rw [decide_eq_true (show -(2 ^ 62) ≤ i by omega), decide_eq_true (show i < 2 ^ 62 by omega)]
  rfl
theorem srRng_ok {i : Int} {M : Ar} (h : small i = true) : srRng [.t (.int i)] M = .ok (.fix (rngL 0 i)) M := by
  show okIf (small i) (Res.ok (Itm.fix (rngL 0 i)) M) = _
  rw [h]
  rfl
theorem atI_map {xs : List T} {i : Nat} {x : T} (h : xs[i]? = some x) : L2.atI (xs.map D.t) ((i : Nat) : Int) = some (.t x) := by
  have hi := (List.getElem?_eq_some_iff.mp h).1
  unfold L2.atI
  rw [ixN_pos (by omega) (by simp; omega)]
  show (xs.map D.t)[((i : Nat) : Int).toNat]? = _
  rw [Int.toNat_natCast, List.getElem?_map, h]
  rfl
end Rw
end
section
set_option Elab.async false
set_option linter.all false
set_option maxRecDepth 100000
set_option maxHeartbeats 0
namespace Rw.Aw
open PySem Rw.Pr Rw.Lr
structure AwF (F : Nat → Option Fn) : Prop where
  h84 : F 84 = some f__law_drawn
  h86 : F 86 = some f__law_all_codes
  h89 : F 89 = some f__law_any_words
variable {F : Nat → Option Fn} {k : Nat} {ns : List Int}
theorem dr (H : AwF F) {o : MO} {n : Int} {rest : Ar} (hs : Stt ns o) (h2 : 0 < n) (h3 : n < 1073741824) :
    ∃ (v : Int) (o' : MO), run F (k + 1) 84 [.ref 0, .t (.int n)] (o :: rest) = .ok (.t (.int v)) (o' :: rest) ∧ 0 ≤ v ∧ v < n ∧ Stt ns o' := drawn_ok H.h84 hs h2 h3
def aE (sm many : D) (x5 x6 x7 x8 x9 x10 x11 : Option D) : En := [some (.ref 0), some sm, some many, some (.ref 1), some (.t (.lst (cds.map cT))), x5, x6, x7, x8, x9, x10, x11]
theorem ws_snoc {f : List Int} {w : Int} (h : Ws f) (h0 : 0 ≤ w) (h1 : w < 256) : Ws (f ++ [w]) := by
  intro x hx
  rcases List.mem_append.mp hx with h2 | h2
  · exact h x h2
  · rw [List.mem_singleton.mp h2]; exact ⟨h0, h1⟩
theorem ap1 {o : MO} {f : List Int} {w : Int} (h : f.length < 1000) : meV .append (.ref 1) [.t (.int w)] [o, .lst (il f)] = .ok (.t .non) [o, .lst (il (f ++ [w]))] := by
  simp only [meV, List.getElem?_cons_succ, List.getElem?_cons_zero]
  rw [decide_eq_true (show (il f).length < line by unfold il; rw [List.length_map]; show _ < 16777216; omega), il_appD]
  rfl
theorem is1 {o : MO} {f : List Int} : isLst [o, .lst (il f)] (.ref 1) = true := rfl
theorem ln1 {o : MO} {f : List Int} : biV .len [.ref 1] [o, .lst (il f)] = .ok (.t (.int f.length)) [o, .lst (il f)] := by
  show Res.ok (D.t (T.int ((il f).length : Nat))) _ = _
  unfold il
  rw [List.length_map]
/-- one further word -/
theorem any_more (H : AwF F) {o : MO} {f : List Int} {many : Int} {sm : D} {op : String} {x5 x7 x8 x9 x10 x11 : Option D} {dd : D} (hs : Stt ns o) (hf : Ws f) (hm0 : 0 ≤ many) (hm1 : many ≤ 256) (hl : f.length < 1000) :
    ∃ (w : Int) (o' : MO) (x : Option D), forBody (run F (k + 1)) (.var 10) f__law_any_words_B0 dd (aE sm (.t (.int many)) x5 (some (.t (.str (Str.ofString op)))) x7 x8 x9 x10 x11) [o, .lst (il f)] = .ok (.nx (aE sm (.t (.int many)) x5 (some (.t (.str (Str.ofString op)))) x7 x8 x9 (some dd) x)) [o', .lst (il (f ++ [w]))] ∧ Stt ns o' ∧ 0 ≤ w ∧ w < 256 := by
  obtain ⟨v1, o1, e1, a1, b1, s1⟩ := dr H (k := k) (rest := [.lst (il f)]) (n := many + 2) hs (by omega) (by omega)
  obtain ⟨v2, o2, e2, a2, b2, s2⟩ := dr H (k := k) (rest := [.lst (il f)]) (n := 5) s1 (by omega) (by omega)
  obtain ⟨v3, o3, e3, a3, b3, s3⟩ := dr H (k := k) (rest := [.lst (il f)]) (n := 256) s2 (by omega) (by omega)
  have ap := fun (o : MO) (w : Int) => ap1 (o := o) (w := w) (f := f) (by omega)
  by_cases ho : op = "skip"
  · obtain ⟨v4, o4, e4, a4, b4, s4⟩ := dr H (k := k) (rest := [.lst (il f)]) (n := 12) s3 (by omega) (by omega)
    refine ⟨(v4 - 6) % 256, o4, some (.t (.lst [.int v1, .int (f.length + v2 - 2), .int v3])), ?_, s4, by omega, by omega⟩
    simp_arith [forBody, f__law_any_words_B0, aE, e1, e2, e3, e4, ho, callV_plain, ap, is1, ln1, -biV]
  · obtain ⟨v4, o4, e4, a4, b4, s4⟩ := dr H (k := k) (rest := [.lst (il f)]) (n := 3) s3 (by omega) (by omega)
    have hc : v4 = 0 ∨ v4 = 1 ∨ v4 = 2 := by omega
    rcases hc with rfl | rfl | rfl
    · refine ⟨v1 % 256, o4, some (.t (.lst [.int v1, .int (f.length + v2 - 2), .int v3])), ?_, s4, by omega, by omega⟩
      simp_arith [forBody, f__law_any_words_B0, aE, e1, e2, e3, e4, ho, callV_plain, ap, is1, ln1, -biV]
    · refine ⟨(f.length + v2 - 2) % 256, o4, some (.t (.lst [.int v1, .int (f.length + v2 - 2), .int v3])), ?_, s4, by omega, by omega⟩
      simp_arith [forBody, f__law_any_words_B0, aE, e1, e2, e3, e4, ho, callV_plain, ap, is1, ln1, -biV]
    · refine ⟨v3 % 256, o4, some (.t (.lst [.int v1, .int (f.length + v2 - 2), .int v3])), ?_, s4, by omega, by omega⟩
      simp_arith [forBody, f__law_any_words_B0, aE, e1, e2, e3, e4, ho, callV_plain, ap, is1, ln1, -biV]
theorem any_mores (H : AwF F) {many : Int} {sm : D} {op : String} {x5 x7 x8 x9 : Option D} (hm0 : 0 ≤ many) (hm1 : many ≤ 256) : ∀ (l : List D) (o : MO) (f : List Int) (x10 x11 : Option D), Stt ns o → Ws f → f.length + l.length < 1000 →
    ∃ (f' : List Int) (o' : MO) (y10 y11 : Option D), forF (forBody (run F (k + 1)) (.var 10) f__law_any_words_B0) l (aE sm (.t (.int many)) x5 (some (.t (.str (Str.ofString op)))) x7 x8 x9 x10 x11) [o, .lst (il f)] = .ok (.nx (aE sm (.t (.int many)) x5 (some (.t (.str (Str.ofString op)))) x7 x8 x9 y10 y11)) [o', .lst (il f')] ∧ Stt ns o' ∧ Ws f' ∧ f'.length = f.length + l.length
  | [], o, f, x10, x11, hs, hf, _ => ⟨f, o, x10, x11, rfl, hs, hf, rfl⟩
  | dd :: l, o, f, x10, x11, hs, hf, hl => by
    rw [List.length_cons] at hl
    obtain ⟨w, o1, x, e, s1, a1, b1⟩ := any_more H (k := k) (sm := sm) (op := op) (x5 := x5) (x7 := x7) (x8 := x8) (x9 := x9) (x10 := x10) (x11 := x11) (dd := dd) hs hf hm0 hm1 (by omega)
    obtain ⟨f', o', y10, y11, e2, s2, w2, l2⟩ := any_mores H hm0 hm1 l o1 (f ++ [w]) (some dd) x s1 (ws_snoc hf a1 b1) (by simp; omega)
    refine ⟨f', o', y10, y11, ?_, s2, w2, by rw [l2]; simp; omega⟩
    rw [Lr.forF_nx e]
    exact e2
def aI (many : Int) (sm : D) (m : Nat) (r : En) (M : Ar) : Prop := ∃ o f x5 x6 x7 x8 x9 x10 x11, Stt ns o ∧ Ws f ∧ f.length < 300 ∧ m = (many - f.length).toNat ∧ r = aE sm (.t (.int many)) x5 x6 x7 x8 x9 x10 x11 ∧ M = [o, .lst (il f)]
theorem cds_ok : cds.all (fun c => decide (c.2.2.1 = 0 ∨ c.2.2.1 = 1 ∨ c.2.2.1 = 2) && decide (0 ≤ c.2.1) && decide (c.2.1 ≤ 128) && decide (0 ≤ c.2.2.2) && decide (c.2.2.2 ≤ 2)) = true := by decide +kernel
theorem rngL_len {n : Int} : (rngL 0 n).length = n.toNat := by simp [rngL]
theorem cds_at {i : Int} (h0 : 0 ≤ i) (h1 : i < 15) : ∃ (op : String) (base : Int) (bx : Nat) (more : Int), L2.atI ((cds.map cT).map D.t) i = some (.t (cT (op, base, bx, more))) ∧ (bx = 0 ∨ bx = 1 ∨ bx = 2) ∧ 0 ≤ base ∧ base ≤ 128 ∧ 0 ≤ more ∧ more ≤ 2 := by
  have hi : i.toNat < cds.length := by show i.toNat < 15; omega
  have hk := List.all_eq_true.mp cds_ok _ (List.getElem_mem hi)
  have ha := atI_map (xs := cds.map cT) (i := i.toNat) (x := cT cds[i.toNat]) (by rw [List.getElem?_map, List.getElem?_eq_getElem hi]; rfl)
  rw [Int.toNat_of_nonneg h0] at ha
  generalize cds[i.toNat] = c at ha hk
  obtain ⟨op, base, bx, more⟩ := c
  simp only [Bool.and_eq_true, decide_eq_true_eq] at hk
  exact ⟨op, base, bx, more, ha, hk.1.1.1.1, hk.1.1.1.2, hk.1.1.2, hk.1.2, hk.2⟩
theorem any_step (H : AwF F) {many : Int} {sm : D} (hm0 : 0 ≤ many) (hm1 : many ≤ 256) {m : Nat} {r : En} {M : Ar} (h : aI (ns := ns) many sm m r M) :
    (∃ M1, evT (run F (k + 1)) (.cmp .lt (.bi .len [(.var 3)]) (.var 2)) r M = .ok false M1 ∧ (M1 = M ∧ ∃ m, aI (ns := ns) many sm m r M)) ∨
    ∃ M1 r' M' m', evT (run F (k + 1)) (.cmp .lt (.bi .len [(.var 3)]) (.var 2)) r M = .ok true M1 ∧ evB (run F (k + 1)) f__law_any_words_B1 r M1 = .ok (.nx r') M' ∧ m' < m ∧ aI (ns := ns) many sm m' r' M' := by
  obtain ⟨o, f, x5, x6, x7, x8, x9, x10, x11, hs, hf, hl, rfl, rfl, rfl⟩ := h
  by_cases hlt : (f.length : Int) < many
  · right
    refine ⟨[o, .lst (il f)], ?_⟩
    have ap := fun (o : MO) (w : Int) => ap1 (o := o) (w := w) (f := f) (by omega)
    have ec : evT (run F (k + 1)) (.cmp .lt (.bi .len [(.var 3)]) (.var 2)) (aE sm (.t (.int many)) x5 x6 x7 x8 x9 x10 x11) [o, .lst (il f)] = .ok true [o, .lst (il f)] := by
      simp_arith [aE, hlt, ln1, -biV]
    obtain ⟨v1, o1, e1, a1, b1, s1⟩ := dr H (k := k) (rest := [.lst (il f)]) (n := 5) hs (by omega) (by omega)
    by_cases h0 : v1 = 0
    · obtain ⟨v2, o2, e2, a2, b2, s2⟩ := dr H (k := k) (rest := [.lst (il f)]) (n := 256) s1 (by omega) (by omega)
      refine ⟨aE sm (.t (.int many)) (some (.t (.int v1))) x6 x7 x8 x9 x10 x11, [o2, .lst (il (f ++ [v2]))], _, ec, ?_, ?_, o2, f ++ [v2], _, _, _, _, _, _, _, s2, ws_snoc hf a2 b2, by simp; omega, rfl, rfl, rfl⟩
      · simp_arith [f__law_any_words_B1, aE, e1, e2, h0, callV_plain, ap, is1, ln1, -biV]
      · simp; omega
    · by_cases h1 : v1 = 1
      · obtain ⟨v2, o2, e2, a2, b2, s2⟩ := dr H (k := k) (rest := [.lst (il f)]) (n := 32) s1 (by omega) (by omega)
        refine ⟨aE sm (.t (.int many)) (some (.t (.int v1))) x6 x7 x8 x9 x10 x11, [o2, .lst (il (f ++ [144 + v2]))], _, ec, ?_, ?_, o2, f ++ [144 + v2], _, _, _, _, _, _, _, s2, ws_snoc hf (by omega) (by omega), by simp; omega, rfl, rfl, rfl⟩
        · simp_arith [f__law_any_words_B1, aE, e1, e2, h1, callV_plain, ap, is1, ln1, -biV]
        · simp; omega
      · obtain ⟨v2, o2, e2, a2, b2, s2⟩ := dr H (k := k) (rest := [.lst (il f)]) (n := 15) s1 (by omega) (by omega)
        obtain ⟨op, base, bx, more, hat, hbx, c0, c1, c2, c3⟩ := cds_at a2 b2
        rw [List.map_map] at hat
        have hsm := small_in (i := more) (by omega) (by omega)
        have fin : ∀ (mu : Int), 0 < mu → mu ≤ 16 → L2.atI [D.t (T.int 1), D.t (T.int 4), D.t (T.int 16)] (bx : Int) = some (.t (.int mu)) → ∃ r' M' m', evT (run F (k + 1)) (.cmp .lt (.bi .len [(.var 3)]) (.var 2)) (aE sm (.t (.int many)) x5 x6 x7 x8 x9 x10 x11) [o, .lst (il f)] = .ok true [o, .lst (il f)] ∧ evB (run F (k + 1)) f__law_any_words_B1 (aE sm (.t (.int many)) x5 x6 x7 x8 x9 x10 x11) [o, .lst (il f)] = .ok (.nx r') M' ∧ m' < (many - f.length).toNat ∧ aI (ns := ns) many sm m' r' M' := by
          intro mu m0 m1 hmu
          obtain ⟨v3, o3, e3, a3, b3, s3⟩ := dr H (k := k) (rest := [.lst (il f)]) (n := mu) s2 (by omega) (by omega)
          obtain ⟨f', o', y10, y11, e4, s4, w4, l4⟩ := any_mores H (k := k) (sm := sm) (op := op) (x5 := some (.t (.int v1))) (x7 := some (.t (.int base))) (x8 := some (.t (.int (bx : Int)))) (x9 := some (.t (.int more))) hm0 hm1 (rngL 0 more) o3 (f ++ [base + v3]) x10 x11 s3 (ws_snoc hf (by omega) (by omega)) (by rw [rngL_len]; simp; omega)
          rw [rngL_len] at l4
          have e5 : evS (run F (k + 1)) f__law_any_words_L0 (aE sm (.t (.int many)) (some (.t (.int v1))) (some (.t (.str (Str.ofString op)))) (some (.t (.int base))) (some (.t (.int (bx : Int)))) (some (.t (.int more))) x10 x11) [o3, .lst (il (f ++ [base + v3]))] = .ok (.nx (aE sm (.t (.int many)) (some (.t (.int v1))) (some (.t (.str (Str.ofString op)))) (some (.t (.int base))) (some (.t (.int (bx : Int)))) (some (.t (.int more))) y10 y11)) [o', .lst (il f')] :=
            evS_for _ (by simp_arith [aE, srRng_ok hsm]) e4
          refine ⟨aE sm (.t (.int many)) (some (.t (.int v1))) (some (.t (.str (Str.ofString op)))) (some (.t (.int base))) (some (.t (.int (bx : Int)))) (some (.t (.int more))) y10 y11, _, _, ec, ?_, ?_, o', f', _, _, _, _, _, _, _, s4, w4, ?_, rfl, rfl, rfl⟩
          · simp only [aE] at e5 ⊢
            simp_arith [f__law_any_words_B1, e1, e2, e3, h0, h1, callV_plain, ap, is1, ln1, hat, cT, hmu, e5, -biV]
          · simp at l4; omega
          · simp at l4; omega
        rcases hbx with rfl | rfl | rfl
        · exact fin 1 (by omega) (by omega) rfl
        · exact fin 4 (by omega) (by omega) rfl
        · exact fin 16 (by omega) (by omega) rfl
  · left
    refine ⟨[o, .lst (il f)], ?_, rfl, _, o, f, x5, x6, x7, x8, x9, x10, x11, hs, hf, hl, rfl, rfl, rfl⟩
    simp_arith [aE, hlt, ln1, -biV]
theorem any_ok (H : AwF F) {o : MO} (hs : Stt ns o) : ∃ (ws : List Int) (o' : MO) (rest : Ar), run F (k + 2) 89 [.ref 0] [o] = .ok (.t (tl ws)) (o' :: rest) ∧ Stt ns o' ∧ Ws ws ∧ ws.length ≤ 256 := by
  rw [run_at H.h89]
  obtain ⟨v1, o1, e1, a1, b1, s1⟩ := dr H (k := k) (rest := []) (n := 12) hs (by omega) (by omega)
  obtain ⟨v2, o2, e2, a2, b2, s2⟩ := dr H (k := k) (rest := []) (n := 60) s1 (by omega) (by omega)
  obtain ⟨v3, o3, e3, a3, b3, s3⟩ := dr H (k := k) (rest := []) (n := 57) s2 (by omega) (by omega)
  obtain ⟨v4, o4, e4, a4, b4, s4⟩ := dr H (k := k) (rest := []) (n := 5) s3 (by omega) (by omega)
  have hco := (codes_ok H.h86) k
  have key : ∀ many : Int, 0 ≤ many → many ≤ 256 → ((v4 = 0 ∧ many = v1) ∨ (v4 = 1 ∧ many = v2) ∨ (v4 = 2 ∧ many = v2) ∨ (v4 = 3 ∧ many = v2) ∨ (v4 = 4 ∧ many = 200 + v3)) → ∃ (ws : List Int) (o' : MO) (rest : Ar), fnV (run F (k + 1)) f__law_any_words [.ref 0] [o] = .ok (.t (tl ws)) (o' :: rest) ∧ Stt ns o' ∧ Ws ws ∧ ws.length ≤ 256 := by
    intro many m0 m1 hc
    obtain ⟨r', M', e, _, m, o', f, x5, x6, x7, x8, x9, x10, x11, hs', hf, hl, _, rfl, rfl⟩ := whl_ok (c := evT (run F (k + 1)) (.cmp .lt (.bi .len [(.var 3)]) (.var 2))) (b := evB (run F (k + 1)) f__law_any_words_B1) (aI (ns := ns) many (.t (.lst [.int v1, .int v2, .int (200 + v3)])))
      (fun r M => True ∧ ∃ m, aI (ns := ns) many (.t (.lst [.int v1, .int v2, .int (200 + v3)])) m r M) (fun m r M h => by
        rcases any_step H (k := k) m0 m1 h with ⟨M1, h1, rfl, h2⟩ | h1
        · exact .inl ⟨_, h1, trivial, h2⟩
        · exact .inr h1) (many - (0 : Nat)).toNat wfuel (aE (.t (.lst [.int v1, .int v2, .int (200 + v3)])) (.t (.int many)) none none none none none none none) [o4, .lst (il [])] (by unfold wfuel; omega) ⟨o4, [], _, _, _, _, _, _, _, s4, (fun _ h => nomatch h), by simp, rfl, rfl, rfl⟩
    have e5 := (evS_whl (run F (k + 1)) (.cmp .lt (.bi .len [(.var 3)]) (.var 2)) f__law_any_words_B1 _ _).trans e
    have hi : HT.sIx f.length f.length (some many) ≤ 256 := by
      show (if many < 0 then _ else min many.toNat f.length) ≤ 256
      rw [if_neg (by omega)]; omega
    refine ⟨cut f none (some many), o', [.lst (il f)], ?_, hs', fun w hw => hf w ?_, ?_⟩
    · have c86 := fun M => callV_clean (G := run F (k + 1)) (f := 86) (ds := []) (ts := []) (M := M) rfl hco (snap_t _ _ _)
      have sl : slcV false (.ref 1) none (some many) [o', .lst (il f)] = .ok (.t (tl (cut f none (some many)))) [o', .lst (il f)] := by
        have : slcV false (.ref 1) none (some many) [o', .lst (il f)] = mkL false (cut (il f) none (some many)) [o', .lst (il f)] := rfl
        rw [this, show cut (il f) none (some many) = il (cut f none (some many)) by unfold il; simp [cut, List.map_drop, List.map_take]]
        show Res.ok (frzL (il (cut f none (some many)))) _ = _
        rw [frzL_il]
      have i1 : ∀ M, idxV (.t (.lst [.int 0, .int 1, .int 1, .int 1, .int 2])) (.t (.int 0)) M = .ok (.t (.int 0)) M := fun M => rfl
      have e5 : evS (run F (k + 1)) f__law_any_words_L1 (aE (.t (.lst [.int v1, .int v2, .int (200 + v3)])) (.t (.int many)) none none none none none none none) [o4, .lst []] = _ := e5
      have m0' : ∀ M : Ar, mkLn true [] M = .ok (.ref M.length) (M ++ [.lst []]) := fun M => rfl
      simp only [aE] at e5
      generalize tl (cut f none (some many)) = TC at *
      generalize cds.map cT = CL at *
      rcases hc with ⟨rfl, rfl⟩ | ⟨rfl, rfl⟩ | ⟨rfl, rfl⟩ | ⟨rfl, rfl⟩ | ⟨rfl, rfl⟩ <;> simp_arith [f__law_any_words, callV_plain, e1, e2, e3, e4, c86, e5, sl, asgs, tpOf, L2.atI, L2.ixN]
    · exact List.mem_of_mem_drop (List.mem_of_mem_take hw)
    · have : (cut f none (some many)).length ≤ HT.sIx f.length f.length (some many) - HT.sIx f.length 0 none := by unfold cut; exact List.length_take_le _ _
      omega
  have hc : v4 = 0 ∨ v4 = 1 ∨ v4 = 2 ∨ v4 = 3 ∨ v4 = 4 := by omega
  rcases hc with h | h | h | h | h
  · exact key v1 a1 (by omega) (.inl ⟨h, rfl⟩)
  · exact key v2 a2 (by omega) (.inr (.inl ⟨h, rfl⟩))
  · exact key v2 a2 (by omega) (.inr (.inr (.inl ⟨h, rfl⟩)))
  · exact key v2 a2 (by omega) (.inr (.inr (.inr (.inl ⟨h, rfl⟩))))
  · exact key (200 + v3) (by omega) (by omega) (.inr (.inr (.inr (.inr ⟨h, rfl⟩))))
end Rw.Aw
end
section
set_option Elab.async false
set_option linter.all false
set_option maxRecDepth 100000
set_option maxHeartbeats 0
namespace Rw.Aw
open PySem Rw.Pr Rw.Lr
section
variable {F : Nat → Option Fn} {k : Nat} {ns ws : List Int}
theorem rngN (n : Nat) : rngL 0 (n : Int) = (List.range' 0 n).map fun (i : Nat) => D.t (.int (i : Int)) := by
  unfold rngL
  rw [← List.range_eq_range']
  simp
theorem begins_ok (H : AwF F) (h92 : F 92 = some f__law_begins) {o : MO} (hs : Stt ns o) (hl : ws.length ≤ 256) : ∃ (bs : List Int) (o' : MO), run F (k + 2) 92 [.ref 0, .t (tl ws)] [o] = .ok (.t (tl bs)) [o'] ∧ Stt ns o' ∧ Ws bs ∧ bs.length ≤ 16 := by
  rw [run_at h92]
  obtain ⟨c, o1, ec, c0, c1, s1⟩ := dr H (k := k) (rest := []) (n := 2) hs (by omega) (by omega)
  have hb : ∃ b : Int, 0 < b ∧ b ≤ 16 ∧ ∀ M, idxV (.t (.lst [.int 3, .int 16])) (.t (.int c)) M = .ok (.t (.int b)) M := by
    have : c = 0 ∨ c = 1 := by omega
    rcases this with rfl | rfl
    · exact ⟨3, by omega, by omega, fun M => rfl⟩
    · exact ⟨16, by omega, by omega, fun M => rfl⟩
  obtain ⟨b, b0, b1, ib⟩ := hb
  obtain ⟨d, o2, ed, d0, d1, s2⟩ := dr H (k := k) (rest := []) (n := b) s1 (by omega) (by omega)
  obtain ⟨n, hn⟩ : ∃ n : Nat, 1 + d = n := ⟨(1 + d).toNat, by omega⟩
  have hlen := fun M => len_bi (M := M) ws
  have hmin : ∃ m : Int, 0 < m ∧ m ≤ 256 ∧ ∀ M, biV .min2 [.t (.int 256), .t (.int ((ws.length : Int) + 2))] M = .ok (.t (.int m)) M := by
    by_cases h : (ws.length : Int) + 2 < 256
    · refine ⟨(ws.length : Int) + 2, by omega, by omega, fun M => ?_⟩
      simp [biV, h]
    · refine ⟨256, by omega, by omega, fun M => ?_⟩
      simp [biV, h]
  obtain ⟨m, m0, m1, hmin⟩ := hmin
  obtain ⟨bs, o', e, s', q⟩ := comp_draw (ns := ns) (rest := []) (b := cmpBody (run F (k + 1)) (.var 3) none (.call .plain 84 [(.var 0), (.bi .min2 [(.con (.int 256)), (.bin .add false (.bi .len [(.var 1)]) (.con (.int 2)))])]) [some (.ref 0), some (.t (tl ws)), some (.t (.int n)), none]) (g := fun (j : Nat) => D.t (.int (j : Int))) (h := fun (b : Int) => D.t (.int b)) (Q := fun _ b => 0 ≤ b ∧ b < 256) (List.range' 0 n) [] o2 s2 (fun a _ o hs => by
    obtain ⟨v, o3, e3, v0, v1, s3⟩ := dr H (k := k) (rest := []) (n := m) hs (by omega) (by omega)
    refine ⟨v, o3, ?_, s3, by omega, by omega⟩
    rw [xCb]
    generalize (ws.length : Int) = LN at *
    generalize tl ws = TW at *
    simp_arith [wipeE, Tg.slots, noExc, callV_plain, hlen, hmin, e3, -biV]) (by simp; unfold line; omega)
  rw [List.nil_append] at e
  have hq := q.len
  rw [List.length_range'] at hq
  refine ⟨bs, o', ?_, s', q.right (fun _ _ b hb => hb), by omega⟩
  have sr := srRng_ok (i := (n : Int)) (M := [o2]) (small_in (by omega) (by omega))
  rw [rngN] at sr
  have key : evE (run F (k + 1)) f__law_begins_C0 [some (.ref 0), some (.t (tl ws)), some (.t (.int n)), none] [o2] = .ok (.t (tl bs)) [o'] := by
    unfold f__law_begins_C0
    rw [comp_at (M0 := [o2]) ?_ e]
    · show Res.ok (frzL (il bs)) _ = _
      rw [frzL_il]
    · generalize ((List.range' 0 n).map fun (j : Nat) => D.t (.int (j : Int))) = RL at *
      generalize tl ws = TW at *
      simp_arith [sr]
  generalize tl bs = TB at *
  generalize tl ws = TW at *
  simp_arith [f__law_begins, callV_plain, ec, ib, ed, hn, key, -idxV]
/-- both, as the laws ask them -/
theorem any_call (H : AwF F) {o : MO} {R : Ar} (hs : Stt ns o) : ∃ (ws : List Int) (o' : MO), callV (run F (k + 2)) .focus 89 [.ref 0] (o :: R) = .ok (.t (tl ws)) (o' :: R) ∧ Stt ns o' ∧ Ws ws ∧ ws.length ≤ 256 := by
  obtain ⟨ws, o', rest, e, s', w', l'⟩ := any_ok (k := k) H hs
  obtain ⟨p, m, r, rfl, _⟩ := hs
  have s2 := s'
  obtain ⟨p', m', r', rfl, _⟩ := s'
  refine ⟨ws, _, ?_, s2, w', l'⟩
  exact callV_focus (ts := []) (i := 0) rfl rfl rfl e rfl (snap_t _ _ _)
theorem begins_call (H : AwF F) (h92 : F 92 = some f__law_begins) {o : MO} {R : Ar} (hs : Stt ns o) (hl : ws.length ≤ 256) : ∃ (bs : List Int) (o' : MO), callV (run F (k + 2)) .focus 92 [.ref 0, .t (tl ws)] (o :: R) = .ok (.t (tl bs)) (o' :: R) ∧ Stt ns o' ∧ Ws bs ∧ bs.length ≤ 16 := by
  obtain ⟨bs, o', e, s', w', l'⟩ := begins_ok (k := k) H h92 hs hl
  obtain ⟨p, m, r, rfl, _⟩ := hs
  have s2 := s'
  obtain ⟨p', m', r', rfl, _⟩ := s'
  refine ⟨bs, _, ?_, s2, w', l'⟩
  exact callV_focus (ts := [tl ws]) (i := 0) rfl rfl rfl e rfl (snap_t _ _ _)
end
end Rw.Aw
end
section
set_option Elab.async false
set_option linter.all false
set_option maxRecDepth 100000
set_option maxHeartbeats 0
namespace Rw
open PySem Rw.Pr
section
variable {G : Cal} {M M' : Ar} {r : En}
theorem ite_no {c : Ex} {a b : List Sm} (h : evT G c r M = .ok false M') : evS G (.ite c a b) r M = evB G b r M' := by
  rw [evS_ite, h]
  rfl
theorem ite_0 {c : Ex} {a : List Sm} (h : evT G c r M = .ok false M') : evS G (.ite c a []) r M = .ok (.nx r) M' := (ite_no h).trans (xB0 _ _ _)
end
end Rw
end
section
set_option Elab.async false
set_option linter.all false
set_option maxRecDepth 100000
set_option maxHeartbeats 0
namespace Rw
open PySem Rw.Pr
section
variable {α : Type} {g : α → T} {l : List (Int × α)} {M : Ar} {G : Cal}
def dZ (g : α → T) (l : List (Int × α)) : T := .dct (l.map fun q => .inl q.1) (l.map fun q => g q.2)
theorem dk_dZ : dkOf M (.t (dZ g l)) = some (dkZ (fun a => D.t (g a)) l) := by
  show some ((l.map fun q => (.inl q.1 : L2.Key)).zip ((l.map fun q => g q.2).map D.t)) = _
  rw [zipZ g]
theorem st_dZ : stOf (.t (dZ g l)) = none := rfl
theorem in_dZ {i : Int} {k : Bool → Bool} : inV1 M (.t (.int i)) (.t (dZ g l)) k = .ok (.t (.bl (k (decide (i ∈ l.map (·.1)))))) M := by
  have v : (valD (dkZ (fun a => D.t (g a)) l) (.inl i)).isSome = decide (i ∈ l.map (·.1)) := by rw [valD_dkZ, Option.isSome_map, lookZ]
  unfold inV1
  rw [dk_dZ, st_dZ]
  simp only [keyD, v]
theorem keys_dZ {r : En} {i : Nat} (h : r[i]? = some (some (.t (dZ g l)))) : keysAt r i = some (l.map fun q => D.t (.int q.1)) := by
  unfold keysAt dZ at *
  rw [h]
  show some ((l.map fun q => (.inl q.1 : L2.Key)).map kD) = _
  rw [List.map_map]
  rfl
theorem pairs_dZ : ∀ l : List (Int × α), mapO (pairD M) ((l.map fun (q : Int × α) => T.tup [.int q.1, g q.2]).map D.t) = some (dkZ (fun a => D.t (g a)) l)
  | [] => rfl
  | q :: l => by
    have e : pairD M (.t (.tup [.int q.1, g q.2])) = some (.inl q.1, D.t (g q.2)) := rfl
    simp only [List.map_cons, mapO, e, pairs_dZ l]
    rfl
theorem merge_dZ : ∀ (l m : List (Int × α)), ((m ++ l).map (·.1)).Nodup → mergeKD (dkZ (fun a => D.t (g a)) m) (dkZ (fun a => D.t (g a)) l) = dkZ (fun a => D.t (g a)) (m ++ l)
  | [], m, _ => by rw [List.append_nil]; rfl
  | q :: l, m, h => by
    have hq : q.1 ∉ m.map (·.1) := fun hx => by
      rw [List.map_append, List.nodup_append] at h
      exact h.2.2 q.1 hx q.1 (by simp) rfl
    show mergeKD (putKD (dkZ (fun a => D.t (g a)) m) (.inl q.1) (D.t (g q.2))) (dkZ (fun a => D.t (g a)) l) = _
    rw [putZ (g := fun a => D.t (g a)) hq, merge_dZ l (m ++ [(q.1, q.2)]) (by simpa using h)]
    simp
theorem allT_dZ : ∀ l : List (Int × α), allT ((dkZ (fun a => D.t (g a)) l).map (·.2)) = some (l.map fun q => g q.2)
  | [] => rfl
  | q :: l => by
    show (match allT ((dkZ (fun a => D.t (g a)) l).map (·.2)) with
      | some m => some (g q.2 :: m)
      | none => none) = _
    rw [allT_dZ l]
    rfl
theorem dict_dZ (hn : (l.map (·.1)).Nodup) : biV (.dictP false) [.t (.lst (l.map fun q => .tup [.int q.1, g q.2]))] M = .ok (.t (dZ g l)) M := by
  show (match (some ((l.map fun q => T.tup [.int q.1, g q.2]).map D.t)).bind (mapO (pairD M)) with
    | some l => mkD false (mergeKD [] l) M
    | none => .stuck) = _
  rw [Option.bind_some, pairs_dZ]
  show mkD false (mergeKD (dkZ (fun a => D.t (g a)) []) (dkZ (fun a => D.t (g a)) l)) M = _
  rw [merge_dZ l [] (by simpa using hn), List.nil_append]
  show (match frzD (dkZ (fun a => D.t (g a)) l) with
    | some d => Res.ok d M
    | none => .stuck) = _
  unfold frzD
  rw [allT_dZ]
  show Res.ok (D.t (.dct ((dkZ (fun a => D.t (g a)) l).map (·.1)) _)) M = _
  unfold dZ dkZ
  rw [List.map_map]
  rfl
theorem evE_compK {mu : Bool} {tg : Tg} {i : Nat} {c : Option Ex} {e : Ex} {r : En} {L vs : List D} {M' M'' : Ar} {d : D} (h1 : keysAt r i = some L) (h2 : cmpF (cmpBody G tg c e r) L [] M = .ok vs M') (h3 : mkL mu vs M' = .ok d M'') : evE G (.compK mu tg i c e) r M = .ok d M'' := by
  unfold evE
  rw [h1]
  show noExc ((cmpF (cmpBody G tg c e r) L [] M).bind fun l M => mkL mu l M) = _
  rw [h2]
  show noExc (mkL mu vs M') = _
  rw [h3]
  rfl
end
end Rw
end
section
set_option Elab.async false
set_option linter.all false
set_option maxRecDepth 100000
set_option maxHeartbeats 0
namespace Rw.K14
open PySem Rw Rw.Pr
section
variable {F : Nat → Option Fn} {k : Nat} {ns : List Int} {o : MO} {Z : Ar}
/-- a row drawn: its first word, and behind it a number, or a place to be drawn -/
def rwT (b : Int) (n : Option (Option Int)) : T := match n with
  | none => .lst [.int b]
  | some none => .lst [.int b, .non]
  | some (some i) => .lst [.int b, .int i]
structure RwOk (q : Int × Option (Option Int)) : Prop where
  b0 : 0 ≤ q.1 ∧ q.1 < 256
  n0 : ∀ i, q.2 = some (some i) → 0 ≤ i ∧ i < 256
def rwN (q : Int × Option (Option Int)) : Int := if q.2.isNone then 1 else 2
abbrev rwL (qs : List (Int × Option (Option Int))) : MO := .lst (qs.map fun q => D.t (rwT q.1 q.2))
abbrev cE (x2 : D) (x4 : D) (x5 x6 x7 x8 x9 x10 : Option D) : En := [some (.ref 0), some (.ref 1), some x2, some (.ref 2), some x4, x5, x6, x7, x8, x9, x10]
/-- a row drawn -/
theorem cl_turn (h84 : F 84 = some f__law_drawn) (hs : Stt ns o) {qs : List (Int × Option (Option Int))} {st : List Int} {p : Int} {d x4 : D} {x5 x6 x7 x8 x9 x10 : Option D} (hq : qs.length < 1000) (hst : st.length < 1000) :
    ∃ (q : Int × Option (Option Int)) (o' : MO) (y8 y9 : Option D), RwOk q ∧ Stt ns o' ∧ forBody (run F (k + 1)) (.var 5) f__law_clean_B0 d (cE (.t (.int p)) x4 x5 x6 x7 x8 x9 x10) [o, rwL qs, .lst (il st)] = .ok (.nx (cE (.t (.int (p + rwN q))) x4 (some d) x6 x7 y8 y9 x10)) [o', rwL (qs ++ [q]), .lst (il (st ++ [p]))] := by
  obtain ⟨w, o1, e1, w0, w1, s1⟩ := drawn_ok (k := k) (rest := [rwL qs, .lst (il st)]) (n := 6) h84 hs (by omega) (by omega)
  obtain ⟨c, o2, e2, c0, c1, s2⟩ := drawn_ok (k := k) (rest := [rwL qs, .lst (il st)]) (n := 6) h84 s1 (by omega) (by omega)
  obtain ⟨b, bo, ib⟩ : ∃ b : Int, (b = 16 ∨ b = 36 ∨ b = 50 ∨ b = 96 ∨ b = 100 ∨ b = 116) ∧ ∀ M, idxV (.t (.lst [.int 16, .int 36, .int 50, .int 96, .int 100, .int 116])) (.t (.int c)) M = .ok (.t (.int b)) M := by
    have : c = 0 ∨ c = 1 ∨ c = 2 ∨ c = 3 ∨ c = 4 ∨ c = 5 := by omega
    rcases this with rfl | rfl | rfl | rfl | rfl | rfl
    · exact ⟨16, by omega, fun M => rfl⟩
    · exact ⟨36, by omega, fun M => rfl⟩
    · exact ⟨50, by omega, fun M => rfl⟩
    · exact ⟨96, by omega, fun M => rfl⟩
    · exact ⟨100, by omega, fun M => rfl⟩
    · exact ⟨116, by omega, fun M => rfl⟩
  obtain ⟨q, qb, qok, ev⟩ : ∃ q : Int × Option (Option Int), q.1 = b ∧ RwOk q ∧ ∀ M x5 x10, evE (run F (k + 1)) (.ife (.cmp .isIn (.var 9) (.tuple [(.con (.int 36)), (.con (.int 50))])) (.list false [(.var 9)]) (.list false [(.var 9), (.ife (.cmp .gt (.var 9) (.con (.int 90))) (.con .non) (.var 8))])) (cE (.t (.int p)) x4 x5 x6 x7 (some (.t (.int w))) (some (.t (.int b))) x10) M = .ok (.t (rwT q.1 q.2)) M := by
    rcases bo with rfl | rfl | rfl | rfl | rfl | rfl
    · exact ⟨(16, some (some w)), rfl, ⟨by omega, fun i h => by cases h; omega⟩, fun M x5 x10 => rfl⟩
    · exact ⟨(36, none), rfl, ⟨by omega, fun i h => by cases h⟩, fun M x5 x10 => rfl⟩
    · exact ⟨(50, none), rfl, ⟨by omega, fun i h => by cases h⟩, fun M x5 x10 => rfl⟩
    · exact ⟨(96, some none), rfl, ⟨by omega, fun i h => by cases h⟩, fun M x5 x10 => rfl⟩
    · exact ⟨(100, some none), rfl, ⟨by omega, fun i h => by cases h⟩, fun M x5 x10 => rfl⟩
    · exact ⟨(116, some none), rfl, ⟨by omega, fun i h => by cases h⟩, fun M x5 x10 => rfl⟩
  subst qb
  refine ⟨q, o2, some (.t (.int w)), some (.t (.int q.1)), qok, s2, ?_⟩
  have ap1 : ∀ M3, meV .append (.ref 1) [.t (rwT q.1 q.2)] [o2, rwL qs, M3] = .ok (.t .non) [o2, rwL (qs ++ [q]), M3] := fun M3 => by
    show okIf (decide ((qs.map fun q => D.t (rwT q.1 q.2)).length < line)) _ = _
    rw [decide_eq_true (by rw [List.length_map]; show _ < 16777216; omega)]
    show Res.ok _ [o2, MO.lst (qs.map (fun q => D.t (rwT q.1 q.2)) ++ [D.t (rwT q.1 q.2)]), M3] = _
    rw [show qs.map (fun q => D.t (rwT q.1 q.2)) ++ [D.t (rwT q.1 q.2)] = (qs ++ [q]).map fun q => D.t (rwT q.1 q.2) by simp]
  have ap2 : ∀ M2, meV .append (.ref 2) [.t (.int p)] [o2, M2, .lst (il st)] = .ok (.t .non) [o2, M2, .lst (il (st ++ [p]))] := fun M2 => by
    show okIf (decide ((il st).length < line)) _ = _
    rw [decide_eq_true (by simp [il]; show _ < 16777216; omega)]
    show Res.ok _ [o2, M2, MO.lst (il st ++ [.t (.int p)])] = _
    rw [show il st ++ [D.t (.int p)] = il (st ++ [p]) by simp [il]]
  have l1 : ∀ M3, idxV (.ref 1) (.t (.int (-1))) [o2, rwL (qs ++ [q]), M3] = .ok (.t (rwT q.1 q.2)) [o2, rwL (qs ++ [q]), M3] := fun M3 => by
    show (match L2.atI ((qs ++ [q]).map fun q => D.t (rwT q.1 q.2)) (-1) with
      | some d => Res.ok d [o2, rwL (qs ++ [q]), M3]
      | none => .stuck) = _
    have : L2.atI ((qs ++ [q]).map fun q => D.t (rwT q.1 q.2)) (-1) = some (D.t (rwT q.1 q.2)) := by
      rw [List.map_append, List.map_cons, List.map_nil]
      generalize qs.map (fun q => D.t (rwT q.1 q.2)) = l
      have e : L2.ixN (l ++ [D.t (rwT q.1 q.2)]).length (-1) = some l.length := by
        unfold L2.ixN
        simp
        omega
      unfold L2.atI
      rw [e]
      simp
    rw [this]
  have l2 : ∀ M, biV .len [.t (rwT q.1 q.2)] M = .ok (.t (.int (rwN q))) M := fun M => by
    obtain ⟨b, n⟩ := q
    cases n with
    | none => rfl
    | some n => cases n <;> rfl
  have ev' := ev
  have i1 : isLst [o2, rwL qs, .lst (il st)] (.ref 1) = true := rfl
  have i2 : isLst [o2, rwL (qs ++ [q]), .lst (il st)] (.ref 2) = true := rfl
  clear ev bo
  generalize rwT q.1 q.2 = RT at *
  generalize rwN q = RN at *
  generalize rwL (qs ++ [q]) = R2 at *
  generalize rwL qs = R1 at *
  generalize il (st ++ [p]) = S2 at *
  generalize il st = S1 at *
  simp_arith [forBody, f__law_clean_B0, cE, callV_plain, e1, e2, ib, ev', ap1, ap2, l1, l2, i1, i2, -meV, -idxV, -biV]
end
end Rw.K14
end
section
set_option Elab.async false
set_option linter.all false
set_option maxRecDepth 100000
set_option maxHeartbeats 0
namespace Rw.K14
open PySem Rw Rw.Pr
theorem forL_inv {b : D → En → Ar → Res Fl} {i : Nat} {l : List D} (I : Nat → En → Ar → Prop) (hI : ∀ j r M, I j r M → M[i]? = some (.lst l)) (hb : ∀ j d, l[j]? = some d → ∀ r M, I j r M → ∃ r' M', b d r M = .ok (.nx r') M' ∧ I (j + 1) r' M') :
    ∀ (m j n : Nat) (r : En) (M : Ar), l.length - j = m → m < n → j ≤ l.length → I j r M → ∃ r' M', forL b i n j r M = .ok (.nx r') M' ∧ I l.length r' M'
  | 0, j, n, r, M, hm, hn, hj, h => by
    obtain ⟨n', rfl⟩ : ∃ n', n = n' + 1 := ⟨n - 1, by omega⟩
    have ej : j = l.length := by omega
    subst ej
    refine ⟨r, M, ?_, h⟩
    unfold forL
    simp only [hI _ _ _ h, List.getElem?_eq_none (Nat.le_refl l.length)]
  | m + 1, j, n, r, M, hm, hn, hj, h => by
    obtain ⟨n', rfl⟩ : ∃ n', n = n' + 1 := ⟨n - 1, by omega⟩
    have hlt : j < l.length := by omega
    have e := List.getElem?_eq_getElem hlt
    obtain ⟨r1, M1, e1, h1⟩ := hb j _ e r M h
    obtain ⟨r2, M2, e2, h2⟩ := forL_inv I hI hb m (j + 1) n' r1 M1 (by omega) (by omega) (by omega) h1
    refine ⟨r2, M2, ?_, h2⟩
    unfold forL
    simp only [hI _ _ _ h, e, e1]
    exact e2
section
variable {F : Nat → Option Fn} {k : Nat} {ns : List Int} {o : MO}
/-- what is drawn so far -/
structure Cn (qs : List (Int × Option (Option Int))) (st : List Int) (p : Int) : Prop where
  q : ∀ q ∈ qs, RwOk q
  s : ∀ i ∈ st, 0 ≤ i ∧ i ≤ p
  p : 0 ≤ p ∧ p ≤ 2 * qs.length
  l : st.length = qs.length
theorem cn_next {qs : List (Int × Option (Option Int))} {st : List Int} {p : Int} (h : Cn qs st p) {q : Int × Option (Option Int)} (hq : RwOk q) : Cn (qs ++ [q]) (st ++ [p]) (p + rwN q) := by
  have hp := h.p
  have hn : 1 ≤ rwN q ∧ rwN q ≤ 2 := by unfold rwN; split <;> omega
  refine ⟨fun x hx => ?_, fun i hi => ?_, ?_, by simp [h.l]⟩
  · rcases List.mem_append.mp hx with hx | hx
    · exact h.q x hx
    · rw [List.mem_singleton.mp hx]; exact hq
  · rcases List.mem_append.mp hi with hi | hi
    · have := h.s i hi
      omega
    · rw [List.mem_singleton.mp hi]
      omega
  · simp only [List.length_append, List.length_singleton]
    omega
theorem cl_loop (h84 : F 84 = some f__law_drawn) {x4 : D} {x6 x7 x10 : Option D} : ∀ (ds : List D) (qs : List (Int × Option (Option Int))) (st : List Int) (p : Int) (o : MO) (x5 x8 x9 : Option D), Stt ns o → Cn qs st p → qs.length + ds.length ≤ 500 →
    ∃ qs' st' p' o' y5 y8 y9, Stt ns o' ∧ Cn qs' st' p' ∧ qs'.length = qs.length + ds.length ∧ forF (forBody (run F (k + 1)) (.var 5) f__law_clean_B0) ds (cE (.t (.int p)) x4 x5 x6 x7 x8 x9 x10) [o, rwL qs, .lst (il st)] = .ok (.nx (cE (.t (.int p')) x4 y5 x6 x7 y8 y9 x10)) [o', rwL qs', .lst (il st')]
  | [], qs, st, p, o, x5, x8, x9, hs, hc, _ => ⟨qs, st, p, o, x5, x8, x9, hs, hc, rfl, rfl⟩
  | d :: ds, qs, st, p, o, x5, x8, x9, hs, hc, hl => by
    rw [List.length_cons] at hl
    obtain ⟨q, o1, y8, y9, hq, s1, e1⟩ := cl_turn (k := k) h84 hs (qs := qs) (st := st) (p := p) (d := d) (x4 := x4) (x5 := x5) (x6 := x6) (x7 := x7) (x8 := x8) (x9 := x9) (x10 := x10) (by omega) (by have := hc.l; omega)
    obtain ⟨qs', st', p', o', z5, z8, z9, s2, c2, l2, e2⟩ := cl_loop h84 ds (qs ++ [q]) (st ++ [p]) (p + rwN q) o1 (some d) y8 y9 s1 (cn_next hc hq) (by simp; omega)
    refine ⟨qs', st', p', o', z5, z8, z9, s2, c2, by rw [l2]; simp; omega, ?_⟩
    exact (forF_cons e1).trans e2
/-- a row's words -/
abbrev fE (p : D) (n : Nat) (x5 : Option D) (fo : List Int) (x7 x8 x9 x10 : Option D) : En := cE p (.t (.int n)) x5 (some (.t (tl fo))) x7 x8 x9 x10
theorem at_il0 {st : List Int} {v : Int} (h0 : 0 ≤ v) (h1 : v < st.length) : ∃ s ∈ st, L2.atI (il st) v = some (.t (.int s)) := by
  obtain ⟨n, rfl⟩ : ∃ n : Nat, v = n := ⟨v.toNat, by omega⟩
  have hn : n < st.length := by omega
  refine ⟨st[n], List.getElem_mem hn, ?_⟩
  unfold L2.atI L2.ixN
  have hl : (il st).length = st.length := by simp [il]
  rw [hl]
  simp [il, hn]
theorem word_at (h84 : F 84 = some f__law_drawn) {qs : List (Int × Option (Option Int))} {st : List Int} {p : Int} (hc : Cn qs st p) (hn : qs.length ≠ 0) (hl : qs.length ≤ 120) {x5 x8 x9 : Option D} {x7 x10 : Option D} {fo : List Int} {pd : D} (w : T) (hw : w = .non ∨ ∃ i : Int, w = .int i ∧ 0 ≤ i ∧ i < 256) (o : MO) (hs : Stt ns o) :
    ∃ (v : Int) (o' : MO), cmpBody (run F (k + 1)) (.var 10) none (.ife (.isN false (.var 10)) (.var 10) (.idx (.var 3) (.call .plain 84 [(.var 0), (.var 4)]))) (fE pd qs.length x5 fo x7 x8 x9 x10) (.t w) (o :: [rwL qs, .lst (il st)]) = .ok (some (.t (.int v))) (o' :: [rwL qs, .lst (il st)]) ∧ Stt ns o' ∧ (0 ≤ v ∧ v < 256) := by
  rw [xCb]
  unfold fE cE
  rcases hw with rfl | ⟨i, rfl, i0, i1⟩
  · obtain ⟨v, o1, e1, v0, v1, s1⟩ := drawn_ok (k := k) (rest := [rwL qs, .lst (il st)]) (n := (qs.length : Int)) h84 hs (by omega) (by omega)
    obtain ⟨s, hm, es⟩ := at_il0 (st := st) v0 (by rw [hc.l]; omega)
    have hb := hc.s s hm
    have hp := hc.p
    refine ⟨s, o1, ?_, s1, by omega, by omega⟩
    have ix : idxV (.ref 2) (.t (.int v)) (o1 :: [rwL qs, .lst (il st)]) = .ok (.t (.int s)) (o1 :: [rwL qs, .lst (il st)]) := by
      show (match L2.atI (il st) v with
        | some d => Res.ok d (o1 :: [rwL qs, .lst (il st)])
        | none => .stuck) = _
      rw [es]
    generalize (qs.length : Int) = QN at *
    generalize tl fo = TF at *
    generalize [rwL qs, MO.lst (il st)] = RR at *
    simp_arith [wipeE, Tg.slots, noExc, callV_plain, e1, ix, isNB, -idxV]
  · refine ⟨i, o, ?_, hs, i0, i1⟩
    generalize (qs.length : Int) = QN at *
    generalize tl fo = TF at *
    generalize [rwL qs, MO.lst (il st)] = RR at *
    simp_arith [wipeE, Tg.slots, noExc, isNB]
theorem fo_turn (h84 : F 84 = some f__law_drawn) {qs : List (Int × Option (Option Int))} {st : List Int} {p : Int} (hc : Cn qs st p) (hn : qs.length ≠ 0) (hl : qs.length ≤ 120) {x5 x7 x8 x9 x10 : Option D} {fo : List Int} (hf : fo.length ≤ 1000) {pd : D} {q : Int × Option (Option Int)} (hq : RwOk q) (hs : Stt ns o) :
    ∃ (ws : List Int) (o' : MO), Stt ns o' ∧ Ws ws ∧ ws.length ≤ 2 ∧ forBody (run F (k + 1)) (.var 7) f__law_clean_B1 (.t (rwT q.1 q.2)) (fE pd qs.length x5 fo x7 x8 x9 x10) (o :: [rwL qs, .lst (il st)]) = .ok (.nx (fE pd qs.length x5 (fo ++ ws) (some (.t (rwT q.1 q.2))) x8 x9 x10)) (o' :: [rwL qs, .lst (il st)]) := by
  obtain ⟨l, el, hl2, hw⟩ : ∃ l : List T, rwT q.1 q.2 = .lst l ∧ l.length ≤ 2 ∧ ∀ w ∈ l, w = .non ∨ ∃ i : Int, w = .int i ∧ 0 ≤ i ∧ i < 256 := by
    have hb := hq.b0
    obtain ⟨b, n⟩ := q
    cases n with
    | none => exact ⟨[.int b], rfl, by simp, fun w hw => .inr ⟨b, by simpa using hw, hb⟩⟩
    | some n =>
      cases n with
      | none =>
        refine ⟨[.int b, .non], rfl, by simp, fun w hw => ?_⟩
        simp only [List.mem_cons, List.not_mem_nil, or_false] at hw
        rcases hw with rfl | rfl
        · exact .inr ⟨b, rfl, hb⟩
        · exact .inl rfl
      | some i =>
        refine ⟨[.int b, .int i], rfl, by simp, fun w hw => ?_⟩
        simp only [List.mem_cons, List.not_mem_nil, or_false] at hw
        rcases hw with rfl | rfl
        · exact .inr ⟨b, rfl, hb⟩
        · exact .inr ⟨i, rfl, hq.n0 i rfl⟩
  rw [el]
  obtain ⟨ws, o', e, s', a⟩ := comp_draw (ns := ns) (rest := [rwL qs, .lst (il st)]) (b := cmpBody (run F (k + 1)) (.var 10) none (.ife (.isN false (.var 10)) (.var 10) (.idx (.var 3) (.call .plain 84 [(.var 0), (.var 4)]))) (fE pd qs.length x5 fo (some (.t (.lst l))) x8 x9 x10)) (g := D.t) (h := fun v : Int => D.t (.int v)) (Q := fun _ v => 0 ≤ v ∧ v < 256) l [] o hs (fun w hm o hs => word_at (k := k) h84 hc hn hl w (hw w hm) o hs) (by show _ ≤ 16777216; simp; omega)
  rw [List.nil_append] at e
  have hlen := a.len
  refine ⟨ws, o', s', a.right (fun _ _ v hv => hv), by omega, ?_⟩
  have sr : evSr (run F (k + 1)) (.seq (.var 7)) (fE pd qs.length x5 fo (some (.t (.lst l))) x8 x9 x10) (o :: [rwL qs, .lst (il st)]) = .ok (.fix (l.map D.t)) (o :: [rwL qs, .lst (il st)]) := by
    have e0 : ∀ M, srSeq (.t (.lst l)) M = .ok (.fix (l.map D.t)) M := fun M => rfl
    unfold fE cE
    generalize (qs.length : Int) = QN at *
    generalize tl fo = TF at *
    generalize l.map D.t = LM at *
    generalize [rwL qs, MO.lst (il st)] = RR at *
    simp_arith [e0, -srSeq]
  have c0 : evE (run F (k + 1)) f__law_clean_C0 (fE pd qs.length x5 fo (some (.t (.lst l))) x8 x9 x10) (o :: [rwL qs, .lst (il st)]) = .ok (.t (tl ws)) (o' :: [rwL qs, .lst (il st)]) := by
    unfold f__law_clean_C0
    rw [comp_at sr e]
    show Res.ok (frzL (il ws)) _ = _
    rw [frzL_il]
  have b1 : ∀ M, binV .add false (.t (tl fo)) (.t (tl ws)) M = .ok (.t (tl (fo ++ ws))) M := fun M => by
    show mkLn false ((fo.map T.int).map D.t ++ (ws.map T.int).map D.t) M = _
    unfold mkLn
    rw [decide_eq_true (show ((fo.map T.int).map D.t ++ (ws.map T.int).map D.t).length ≤ line by simp; show _ ≤ 16777216; omega)]
    show Res.ok (frzL _) M = _
    rw [show (fo.map T.int).map D.t ++ (ws.map T.int).map D.t = il (fo ++ ws) by simp [il, Function.comp_def], frzL_il]
  clear sr e
  unfold fE cE at c0 ⊢
  generalize (qs.length : Int) = QN at *
  generalize tl (fo ++ ws) = T2 at *
  generalize tl fo = TF at *
  generalize tl ws = TW at *
  generalize T.lst l = TL at *
  generalize [rwL qs, MO.lst (il st)] = RR at *
  simp_arith [forBody, f__law_clean_B1, c0, b1, -binV]
end
end Rw.K14
end
section
set_option Elab.async false
set_option linter.all false
set_option maxRecDepth 100000
set_option maxHeartbeats 0
namespace Rw.K14
open PySem Rw Rw.Pr Rw.Aw
section
variable {F : Nat → Option Fn} {k : Nat} {ns : List Int} {o : MO}
theorem clean_ok (h84 : F 84 = some f__law_drawn) (h93 : F 93 = some f__law_clean) (hs : Stt ns o) : ∃ (ws st : List Int) (qs : List (Int × Option (Option Int))) (o' : MO), run F (k + 2) 93 [.ref 0] [o] = .ok (.tup [.t (tl ws), .ref 2]) [o', rwL qs, .lst (il st)] ∧ Stt ns o' ∧ Ws ws ∧ ws.length ≤ 256 ∧ Ws st ∧ 0 < st.length ∧ st.length ≤ 256 := by
  obtain ⟨c, o1, ec, c0, c1, s1⟩ := drawn_ok (k := k) (rest := [MO.lst [], MO.lst []]) (n := 2) h84 hs (by omega) (by omega)
  obtain ⟨b, b0, b1, ib⟩ : ∃ b : Int, 0 < b ∧ b ≤ 100 ∧ ∀ M, idxV (.t (.lst [.int 8, .int 100])) (.t (.int c)) M = .ok (.t (.int b)) M := by
    have : c = 0 ∨ c = 1 := by omega
    rcases this with rfl | rfl
    · exact ⟨8, by omega, by omega, fun M => rfl⟩
    · exact ⟨100, by omega, by omega, fun M => rfl⟩
  obtain ⟨d, o2, ed, d0, d1, s2⟩ := drawn_ok (k := k) (rest := [MO.lst [], MO.lst []]) (n := b) h84 s1 (by omega) (by omega)
  obtain ⟨n, hn⟩ : ∃ n : Nat, 1 + d = n := ⟨(1 + d).toNat, by omega⟩
  have n1 : 1 ≤ n ∧ n ≤ 100 := by omega
  obtain ⟨qs, st, p, o3, y5, y8, y9, s3, cn, lq, e3⟩ := cl_loop (k := k) h84 (x4 := .t (.int n)) (x6 := none) (x7 := none) (x10 := none) ((List.range' 0 n).map fun (i : Nat) => D.t (.int (i : Int))) [] [] 0 o2 none none none s2 ⟨fun q h => (nomatch h), fun i h => (nomatch h), by simp, rfl⟩ (by simp; omega)
  have lq' : qs.length = n := by simpa using lq
  have S1 : evS (run F (k + 1)) (.asg (.tup [(.var 1), (.var 2), (.var 3)]) (.tuple [(.list true []), (.con (.int 0)), (.list true [])])) [some (.ref 0), none, none, none, none, none, none, none, none, none, none] [o] = .ok (.nx [some (.ref 0), some (.ref 1), some (.t (.int 0)), some (.ref 2), none, none, none, none, none, none, none]) [o, .lst [], .lst []] := rfl
  have S2 : evS (run F (k + 1)) (.asg (.var 4) (.bin .add false (.con (.int 1)) (.call .plain 84 [(.var 0), (.idx (.list false [(.con (.int 8)), (.con (.int 100))]) (.call .plain 84 [(.var 0), (.con (.int 2))]))]))) [some (.ref 0), some (.ref 1), some (.t (.int 0)), some (.ref 2), none, none, none, none, none, none, none] [o, .lst [], .lst []] = .ok (.nx [some (.ref 0), some (.ref 1), some (.t (.int 0)), some (.ref 2), some (.t (.int n)), none, none, none, none, none, none]) [o2, .lst [], .lst []] := by
    simp_arith [callV_plain, ec, ib, ed, hn, -idxV]
  have S3 : evS (run F (k + 1)) f__law_clean_L0 [some (.ref 0), some (.ref 1), some (.t (.int 0)), some (.ref 2), some (.t (.int n)), none, none, none, none, none, none] [o2, .lst [], .lst []] = .ok (.nx (cE (.t (.int p)) (.t (.int n)) y5 none none y8 y9 none)) [o3, rwL qs, .lst (il st)] := by
    refine evS_for (l := (List.range' 0 n).map fun (i : Nat) => D.t (.int (i : Int))) (M0 := [o2, .lst [], .lst []]) _ ?_ e3
    have sr := srRng_ok (i := (n : Int)) (M := [o2, MO.lst [], MO.lst []]) (small_in (by omega) (by omega))
    rw [Aw.rngN] at sr
    clear e3
    generalize ((List.range' 0 n).map fun (i : Nat) => D.t (.int (i : Int))) = RL at *
    simp_arith [sr, -srRng]
  have S4 : evS (run F (k + 1)) (.asg (.var 6) (.list false [])) (cE (.t (.int p)) (.t (.int n)) y5 none none y8 y9 none) [o3, rwL qs, .lst (il st)] = .ok (.nx (fE (.t (.int p)) n y5 [] none y8 y9 none)) [o3, rwL qs, .lst (il st)] := rfl
  obtain ⟨r4, M4, e4, o4, fo, x7, s4, wf, lf, rfl, rfl⟩ := forL_inv (b := forBody (run F (k + 1)) (.var 7) f__law_clean_B1) (i := 1) (l := qs.map fun q => D.t (rwT q.1 q.2)) (fun j r M => ∃ o fo x7, Stt ns o ∧ Ws fo ∧ fo.length ≤ 2 * j ∧ r = fE (.t (.int p)) n y5 fo x7 y8 y9 none ∧ M = o :: [rwL qs, .lst (il st)]) (fun j r M h => by
      obtain ⟨o, fo, x7, _, _, _, _, rfl⟩ := h
      rfl) (fun j d hj r M h => by
      obtain ⟨o, fo, x7, hs, hw, hl, rfl, rfl⟩ := h
      rw [List.getElem?_map] at hj
      obtain ⟨q, hq, rfl⟩ := Option.map_eq_some_iff.mp hj
      have jl : j < qs.length := (List.getElem?_eq_some_iff.mp hq).1
      obtain ⟨w2, o', s', ww, wl, e⟩ := fo_turn (k := k) (x5 := y5) (x7 := x7) (x8 := y8) (x9 := y9) (x10 := none) (fo := fo) (pd := .t (.int p)) h84 cn (by omega) (by omega) (by omega) (cn.q q (List.mem_of_getElem? hq)) hs
      rw [lq'] at e
      refine ⟨_, _, e, o', fo ++ w2, _, s', fun x hx => ?_, by simp; omega, rfl, rfl⟩
      rcases List.mem_append.mp hx with hx | hx
      · exact hw x hx
      · exact ww x hx) qs.length 0 (qs.length + 1) (fE (.t (.int p)) n y5 [] none y8 y9 none) [o3, rwL qs, .lst (il st)] (by simp) (by omega) (Nat.zero_le _) ⟨o3, [], none, s3, (fun x h => nomatch h), by simp, rfl, rfl⟩
  rw [List.length_map] at lf
  have S5 : evS (run F (k + 1)) f__law_clean_L1 (fE (.t (.int p)) n y5 [] none y8 y9 none) [o3, rwL qs, .lst (il st)] = .ok (.nx (fE (.t (.int p)) n y5 fo x7 y8 y9 none)) [o4, rwL qs, .lst (il st)] := by
    refine evS_for_live (l := []) (i := 1) (n := qs.length) (M0 := [o3, rwL qs, .lst (il st)]) ?_ e4
    show Res.ok (Itm.live 1 (qs.map fun q => D.t (rwT q.1 q.2)).length) _ = _
    rw [List.length_map]
  have bin : ∀ M, binV .add false (.t (tl fo)) (.t (.lst [.int 0])) M = .ok (.t (tl (fo ++ [0]))) M := fun M => by
    show mkLn false ((fo.map T.int).map D.t ++ [D.t (.int 0)]) M = _
    unfold mkLn
    rw [decide_eq_true (show ((fo.map T.int).map D.t ++ [D.t (.int 0)]).length ≤ line by simp; show _ ≤ 16777216; omega)]
    show Res.ok (frzL _) M = _
    rw [show (fo.map T.int).map D.t ++ [D.t (.int 0)] = il (fo ++ [0]) by simp [il, Function.comp_def], frzL_il]
  have S6 : evS (run F (k + 1)) (.ret (some (.tuple [(.bin .add false (.var 6) (.list false [(.con (.int 0))])), (.var 3)]))) (fE (.t (.int p)) n y5 fo x7 y8 y9 none) [o4, rwL qs, .lst (il st)] = .ok (.rt (.tup [.t (tl (fo ++ [0])), .ref 2])) [o4, rwL qs, .lst (il st)] := by
    clear S5 e4 S4 S3 e3
    unfold fE cE
    generalize (n : Int) = NN at *
    generalize tl (fo ++ [0]) = T2 at *
    generalize tl fo = TF at *
    generalize [o4, rwL qs, .lst (il st)] = M4 at *
    simp_arith [bin, -binV]
  have eB : evB (run F (k + 1)) f__law_clean.body ([some (.ref 0)] ++ List.replicate 10 none) [o] = .ok (.rt (.tup [.t (tl (fo ++ [0])), .ref 2])) [o4, rwL qs, .lst (il st)] := by
    unfold f__law_clean
    refine (seq1 S1).trans ((seq1 S2).trans ((seq1 S3).trans ((seq1 S4).trans ((seq1 S5).trans ?_))))
    rw [xB1, S6] <;> rfl
  refine ⟨fo ++ [0], st, qs, o4, ?_, s4, fun x hx => ?_, by simp; omega, fun x hx => ?_, by rw [cn.l]; omega, by rw [cn.l]; omega⟩
  · rw [run_at h93]
    show (evB (run F (k + 1)) f__law_clean.body ([some (.ref 0)] ++ List.replicate 10 none) [o]).bind _ = _
    rw [eB] <;> rfl
  · rcases List.mem_append.mp hx with hx | hx
    · exact wf x hx
    · rw [List.mem_singleton.mp hx]; omega
  · have := cn.s x hx
    have := cn.p
    omega
theorem clean_call (h84 : F 84 = some f__law_drawn) (h93 : F 93 = some f__law_clean) {R : Ar} (hs : Stt ns o) : ∃ (ws st : List Int) (o' : MO), callV (run F (k + 2)) .focus 93 [.ref 0] (o :: R) = .ok (.t (.tup [tl ws, tl st])) (o' :: R) ∧ Stt ns o' ∧ Ws ws ∧ ws.length ≤ 256 ∧ Ws st ∧ 0 < st.length ∧ st.length ≤ 256 := by
  obtain ⟨ws, st, qs, o', e, s', r⟩ := clean_ok (k := k) h84 h93 hs
  obtain ⟨p, m, r0, rfl, _⟩ := hs
  have s2 := s'
  obtain ⟨p', m', r', rfl, _⟩ := s'
  refine ⟨ws, st, _, ?_, s2, r⟩
  refine callV_focus (ts := []) (i := 0) rfl rfl rfl e rfl ?_
  have e2 : snap (MO.gone :: [rwL qs, .lst (il st)]) 5 (.ref 2) = some (tl st) := by
    have g : (MO.gone :: [rwL qs, MO.lst (il st)])[2]? = some (.lst (il st)) := rfl
    unfold snap
    simp only [g, mapO_il]
    rfl
  show snap (MO.gone :: [rwL qs, .lst (il st)]) 6 _ = _
  unfold snap
  simp only [mapO, snap_t, e2]
  rfl
end
end Rw.K14
end
section
set_option Elab.async false
set_option linter.all false
set_option maxRecDepth 100000
set_option maxHeartbeats 0
namespace Rw.K14
open PySem Rw Rw.Pr Rw.Aw
structure LawF (F : Nat → Option Fn) : Prop where
  aw : AwF F
  tra : TraF F
  run : RunF F
  h80 : F 80 = some f_come_to
  h81 : F 81 = some f_middles
  h92 : F 92 = some f__law_begins
  h93 : F 93 = some f__law_clean
def lE (x0 x2 x3 x4 x5 x6 x7 x8 x9 x10 x11 x12 x13 x14 : Option D) : En := [x0, some (.ref 0), x2, x3, x4, x5, x6, x7, x8, x9, x10, x11, x12, x13, x14]
abbrev sN (s : String) : T := .str (Str.ofString s)
abbrev opT (t : Tr) : T := dZ sN (coF t)
abbrev apT (t : Tr) : T := .lst ((apF t).map pr2T)
section
variable {F : Nat → Option Fn} {k : Nat} {ns : List Int} {o : MO} {R M : Ar} {ws bs : List Int} {t t1 : Tr} {G : Cal}
variable {x0 x2 x3 x4 x5 x6 x7 x8 x9 x10 x11 x12 x13 x14 : Option D}
theorem co_keys : (coF t).map (·.1) = sortI (t.rows.map (·.1)) := by
  unfold coF
  rw [List.map_map]
  exact List.map_id _
theorem co_in {p : Int} : p ∈ (coF t).map (·.1) ↔ p ∈ t.rows.map (·.1) := by
  rw [co_keys, mem_sortI]
theorem insI_nd {x : Int} : ∀ {l : List Int}, x ∉ l → l.Nodup → (insI x l).Nodup
  | [], _, _ => by simp [insI]
  | y :: l, hx, hn => by
    rw [List.mem_cons, not_or] at hx
    rw [List.nodup_cons] at hn
    unfold insI
    split
    · exact List.nodup_cons.mpr ⟨by simp [hx.1, hx.2], List.nodup_cons.mpr hn⟩
    · exact List.nodup_cons.mpr ⟨fun h => by
        rcases (mem_insI x y l).mp h with e | h
        · exact hx.1 e.symm
        · exact hn.1 h, insI_nd hx.2 hn.2⟩
theorem sortI_nd : ∀ {l : List Int}, l.Nodup → (sortI l).Nodup
  | [], _ => by simp [sortI]
  | x :: l, h => by
    rw [List.nodup_cons] at h
    unfold sortI
    exact insI_nd (fun z => h.1 ((mem_sortI _ _).mp z)) (sortI_nd h.2)
theorem co_nd (hi : TrInv ws t) : ((coF t).map (·.1)).Nodup := by
  rw [co_keys]
  exact sortI_nd hi.nd
theorem dict_co (hi : TrInv ws t) : biV (.dictP false) [.t (.lst ((coF t).map poT))] M = .ok (.t (opT t)) M := dict_dZ (g := sN) (co_nd hi)
theorem in_op {p : Int} {k : Bool → Bool} : inV1 M (.t (.int p)) (.t (opT t)) k = .ok (.t (.bl (k (decide (p ∈ t.rows.map (·.1)))))) M := by
  have : decide (p ∈ (coF t).map (·.1)) = decide (p ∈ t.rows.map (·.1)) := decide_eq_decide.mpr co_in
  rw [← this]
  exact in_dZ
theorem snap_il (l : List Int) {M : Ar} {i n : Nat} (h : M[i]? = some (.lst (il l))) : snap M (n + 2) (.ref i) = some (tl l) := by
  show snap M ((n + 1) + 1) (.ref i) = _
  unfold snap
  simp only [h, mapO_il]
  rfl
theorem run_call {b : Int} {most : Nat} (H : RunF F) (hw : Ws ws) (hl : ws.length ≤ 256) (hb0 : 0 ≤ b) (hb1 : b < 256) (hm : most ≤ 1000) :
    callV (Rw.run F (k + 6)) .clean 13 [.t (tl ws), .t (.int b), .t (.int most)] M = .ok (.t (.tup [tl (finF ws b most).says, .str (Str.ofString (finF ws b most).why), tl (finF ws b most).past])) M := by
  refine callV_clean (ts := [tl ws, .int b, .int most]) rfl (run_ok (k := k) H hw hl hb0 hb1 hm) ?_
  have e4 := snap_il (M := MA ws (finF ws b most)) (finF ws b most).says (i := 4) (n := 3) rfl
  have e5 := snap_il (M := MA ws (finF ws b most)) (finF ws b most).past (i := 5) (n := 3) rfl
  show snap (MA ws (finF ws b most)) 6 (.tup [.ref 4, .t (.str _), .ref 5]) = _
  unfold snap
  simp only [mapO, e4, e5, snap_t]
  rfl
theorem in_tl {f : Int} {l : List Int} {k : Bool → Bool} : inV1 M (.t (.int f)) (.t (tl l)) k = .ok (.t (.bl (k (decide (f ∈ l))))) M := by
  have h1 : ∀ l : List Int, mapO scV (il l) = some (l.map L2.V.int) := fun l => by
    induction l with
    | nil => rfl
    | cons a l ih =>
      have e : il (a :: l) = D.t (.int a) :: il l := rfl
      rw [e, List.map_cons]
      unfold mapO
      rw [ih]
      rfl
  have h2 : ∀ l : List Int, L2.inV (.int f) (l.map L2.V.int) = decide (f ∈ l) := fun l => by
    unfold L2.inV
    induction l with
    | nil => rfl
    | cons a l ih =>
      rw [List.map_cons, List.any_cons, ih]
      by_cases e : f = a
      · subst e
        simp [L2.eqV]
      · have e2 : ¬ a = f := fun z => e z.symm
        simp [L2.eqV, e, e2]
  have e : sqOf M (.t (tl l)) = some (il l) := by
    show some ((l.map T.int).map D.t) = _
    rw [List.map_map]
    rfl
  have g : inV1 M (.t (.int f)) (.t (tl l)) k = inV2 M (.t (.int f)) (.t (tl l)) k := rfl
  rw [g]
  unfold inV2
  rw [e, Option.bind_some, h1]
  show Res.ok (D.t (.bl (k (L2.inV (.int f) (l.map L2.V.int))))) M = _
  rw [h2]
theorem seq_tl (l : List Int) : srSeq (.t (tl l)) M = .ok (.fix (l.map fun p => D.t (.int p))) M := by
  show Res.ok (Itm.fix ((l.map T.int).map D.t)) M = _
  rw [List.map_map]
  rfl
/-- what a run does that is none of the rows -/
theorem lost_ok {ps : List Int} (hp : ps.length ≤ 1000) : evE G f_law_C1 (lE x0 x2 x3 x4 x5 (some (.t (opT t))) x7 x8 x9 (some (.t (tl ps))) x11 x12 x13 x14) M = .ok (.t (tl (lostF t ps))) M := by
  have sr : evSr G (.seq (.var 10)) (lE x0 x2 x3 x4 x5 (some (.t (opT t))) x7 x8 x9 (some (.t (tl ps))) x11 x12 x13 x14) M = .ok (.fix (ps.map fun p => D.t (.int p))) M := by
    have e := fun M => seq_tl (M := M) ps
    unfold lE
    generalize opT t = OT at *
    generalize (ps.map fun p => D.t (.int p)) = Z4 at *
    generalize tl ps = Z1 at *
    simp_arith [e, -srSeq]
  have cm := cmpF_filt (b := cmpBody G (.var 13) (some (.cmp .notIn (.var 13) (.var 6))) (.var 13) (lE x0 x2 x3 x4 x5 (some (.t (opT t))) x7 x8 x9 (some (.t (tl ps))) x11 x12 x13 x14)) (g := fun p : Int => D.t (.int p)) (h := fun p : Int => D.t (.int p)) (p := fun p => !decide (p ∈ t.rows.map (·.1))) (M := M) ps [] (fun p _ => by
    have e := fun M k => in_op (M := M) (t := t) (p := p) (k := k)
    rw [xCb]
    unfold lE
    generalize opT t = OT at *
    generalize tl ps = Z1 at *
    cases hd : decide (p ∈ t.rows.map (·.1)) with
    | true =>
      rw [hd] at e
      simp_arith [wipeE, Tg.slots, noExc, e, -inV1]
    | false =>
      rw [hd] at e
      simp_arith [wipeE, Tg.slots, noExc, e, -inV1]) (by show _ ≤ 16777216; simp; omega)
  unfold f_law_C1
  rw [comp_at sr cm, List.nil_append]
  show Res.ok (frzL (il (lostF t ps))) M = _
  rw [frzL_il]
theorem snd_ok (ha : t.apart.length ≤ 300) : evE G f_law_C2 (lE x0 x2 x3 x4 x5 x6 (some (.t (apT t))) x8 x9 x10 x11 x12 x13 x14) M = .ok (.t (tl ((apF t).map (·.2)))) M := by
  have sr : evSr G (.seq (.var 7)) (lE x0 x2 x3 x4 x5 x6 (some (.t (apT t))) x8 x9 x10 x11 x12 x13 x14) M = .ok (.fix ((apF t).map fun q => D.t (pr2T q))) M := by
    have e : ∀ M, srSeq (.t (apT t)) M = .ok (.fix ((apF t).map fun q => D.t (pr2T q))) M := fun M => by
      show Res.ok (Itm.fix (((apF t).map pr2T).map D.t)) M = _
      rw [List.map_map]
      rfl
    unfold lE
    generalize apT t = Z1 at *
    generalize ((apF t).map fun q => D.t (pr2T q)) = Z2 at *
    simp_arith [e, -srSeq]
  have hl : (apF t).length ≤ 300 := by
    unfold apF
    rw [(sortP_perm _).length_eq]
    have : ∀ l : List (Int × Int), (ndP l).length ≤ l.length := fun l => by
      induction l with
      | nil => exact Nat.le_refl _
      | cons x l ih =>
        unfold ndP
        split <;> simp <;> omega
    have := this t.apart
    omega
  have cm := comp_map (b := cmpBody G (.var 14) none (.idx (.var 14) (.con (.int 1))) (lE x0 x2 x3 x4 x5 x6 (some (.t (apT t))) x8 x9 x10 x11 x12 x13 x14)) (g := fun q : Int × Int => D.t (pr2T q)) (h := fun q : Int × Int => D.t (.int q.2)) (M := M) (l := apF t) (fun q _ => by
    have e : ∀ M, idxV (.t (pr2T q)) (.t (.int 1)) M = .ok (.t (.int q.2)) M := fun M => rfl
    rw [xCb]
    unfold lE
    generalize pr2T q = PQ at *
    generalize apT t = Z1 at *
    simp_arith [wipeE, Tg.slots, noExc, e, -idxV]) (by show _ ≤ 16777216; omega)
  unfold f_law_C2
  rw [comp_at sr cm]
  show Res.ok (frzL ((apF t).map fun q => D.t (.int q.2))) M = _
  rw [show ((apF t).map fun q => D.t (.int q.2)) = il ((apF t).map (·.2)) by simp [il, Function.comp_def], frzL_il]
theorem ne_nil {l : List T} {k : Bool → Bool} : eqV2 M (.t (.lst l)) (.t (.lst [])) k = .ok (.t (.bl (k l.isEmpty))) M := eq_nil_of
/-- a place to begin at -/
theorem begin_turn (L : LawF F) (hw : Ws ws) (hl : ws.length ≤ 256) (hi : TrInv ws t) (h : Cl ws bs t []) (hbw : Ws bs) {b : Int} (hb : b ∈ bs) :
    ∃ y10 y11, forBody (Rw.run F (k + 6)) (.var 8) f_law_B0 (.t (.int b)) (lE x0 x2 (some (.t (tl ws))) x4 x5 (some (.t (opT t))) (some (.t (apT t))) x8 x9 x10 x11 x12 x13 x14) M = .ok (.nx (lE x0 x2 (some (.t (tl ws))) x4 x5 (some (.t (opT t))) (some (.t (apT t))) (some (.t (.int b))) x9 y10 y11 x12 x13 x14)) M := by
  have bb := hbw b hb
  have c1 : ∀ M, callV (Rw.run F (k + 6)) .clean 13 [.t (tl ws), .t (.int b), .t (.int 300)] M = _ := fun M => run_call (k := k) (M := M) (b := b) (most := 300) L.run hw hl bb.1 bb.2 (by omega)
  have rs := run_seen hw hi h hb 300
  have pl : (finF ws b 300).past.length ≤ 1000 := by
    have z : Reach ws 300 (finF ws b 300) := iter_inv (Reach ws 300) (fun s hs g => (reach_step hs g).1) _ _ (init_reach hl)
    have := z.p
    omega
  generalize finF ws b 300 = fi at *
  have al := apart_le hi h hl
  have e1 : ∀ M, idxV (.t (.tup [tl fi.says, .str (Str.ofString fi.why), tl fi.past])) (.t (.int 2)) M = .ok (.t (tl fi.past)) M := fun M => rfl
  have e2 := lost_ok (G := Rw.run F (k + 6)) (M := M) (t := t) (x0 := x0) (x2 := x2) (x3 := some (.t (tl ws))) (x4 := x4) (x5 := x5) (x7 := some (.t (apT t))) (x8 := some (.t (.int b))) (x9 := x9) (x11 := x11) (x12 := x12) (x13 := x13) (x14 := x14) pl
  have e3 := snd_ok (G := Rw.run F (k + 6)) (M := M) (t := t) (x0 := x0) (x2 := x2) (x3 := some (.t (tl ws))) (x4 := x4) (x5 := x5) (x6 := some (.t (opT t))) (x8 := some (.t (.int b))) (x9 := x9) (x10 := some (.t (tl fi.past))) (x11 := some (.t (tl (lostF t fi.past)))) (x12 := x12) (x13 := x13) (x14 := x14) (by omega)
  have n1 := fun M k => ne_nil (M := M) (l := (lostF t fi.past).map T.int) (k := k)
  have n2 := fun M k => ne_nil (M := M) (l := (apF t).map pr2T) (k := k)
  refine ⟨some (.t (tl fi.past)), some (.t (tl (lostF t fi.past))), ?_⟩
  change ∀ M k, eqV2 M (.t (tl (lostF t fi.past))) (.t (.lst [])) k = _ at n1
  rw [List.isEmpty_map] at n1
  change ∀ M k, eqV2 M (.t (apT t)) (.t (.lst [])) k = _ at n2
  rw [List.isEmpty_map] at n2
  rcases rs with z | ⟨p, f, z1, z2⟩
  · rw [z] at e2 n1 e3 ⊢
    simp only [List.isEmpty_nil] at n1
    unfold lE at e2 ⊢
    clear e3 n2
    generalize T.tup [tl fi.says, .str (Str.ofString fi.why), tl fi.past] = RT at *
    generalize tl fi.past = TP at *
    generalize tl [] = TN at *
    generalize opT t = OT at *
    generalize apT t = AT at *
    generalize tl ws = TW at *
    simp_arith [forBody, f_law_B0, c1, e1, e2, n1, -idxV]
  · obtain ⟨r, hr⟩ : ∃ r, lostF t fi.past = p :: r := by
      cases hq : lostF t fi.past with
      | nil => rw [hq] at z1; cases z1
      | cons a r =>
        rw [hq] at z1
        cases z1
        exact ⟨r, rfl⟩
    rw [hr] at e2 n1 e3 ⊢
    have hm : (f, p) ∈ apF t := apF_mem.mpr z2
    have n2' : (apF t).isEmpty = false := by
      cases hq : apF t with
      | nil => rw [hq] at hm; cases hm
      | cons a l => rfl
    rw [n2'] at n2
    simp only [List.isEmpty_cons] at n1
    have i0 : ∀ M, idxV (.t (tl (p :: r))) (.t (.int 0)) M = .ok (.t (.int p)) M := fun M => by
      have := idx_tlI (M := M) (ws := p :: r) (p := 0) (by omega) (by simp)
      simpa using this
    have i1 := fun M => in_tl (M := M) (f := p) (l := (apF t).map (·.2)) (k := not)
    rw [decide_eq_true (List.mem_map.mpr ⟨_, hm, rfl⟩)] at i1
    unfold lE at e2 e3 ⊢
    generalize T.tup [tl fi.says, .str (Str.ofString fi.why), tl fi.past] = RT at *
    generalize tl fi.past = TP at *
    generalize tl (p :: r) = TN at *
    generalize tl ((apF t).map (·.2)) = TS at *
    generalize opT t = OT at *
    generalize apT t = AT at *
    generalize tl ws = TW at *
    simp_arith [forBody, f_law_B0, c1, e1, e2, e3, n1, n2, i0, i1, -idxV, -inV1]
theorem begin_loop (L : LawF F) (hw : Ws ws) (hl : ws.length ≤ 256) (hi : TrInv ws t) (h : Cl ws bs t []) (hbw : Ws bs) : ∀ (ls : List Int) (x8 x10 x11 : Option D), (∀ b ∈ ls, b ∈ bs) →
    ∃ y8 y10 y11, forF (forBody (Rw.run F (k + 6)) (.var 8) f_law_B0) (ls.map fun b => D.t (.int b)) (lE x0 x2 (some (.t (tl ws))) x4 x5 (some (.t (opT t))) (some (.t (apT t))) x8 x9 x10 x11 x12 x13 x14) M = .ok (.nx (lE x0 x2 (some (.t (tl ws))) x4 x5 (some (.t (opT t))) (some (.t (apT t))) y8 x9 y10 y11 x12 x13 x14)) M
  | [], x8, x10, x11, _ => ⟨x8, x10, x11, rfl⟩
  | b :: ls, x8, x10, x11, hb => by
    obtain ⟨y10, y11, e1⟩ := begin_turn (k := k) (M := M) (x0 := x0) (x2 := x2) (x4 := x4) (x5 := x5) (x8 := x8) (x9 := x9) (x10 := x10) (x11 := x11) (x12 := x12) (x13 := x13) (x14 := x14) L hw hl hi h hbw (hb b List.mem_cons_self)
    obtain ⟨z8, z10, z11, e2⟩ := begin_loop L hw hl hi h hbw ls (some (.t (.int b))) y10 y11 (fun b hb' => hb b (List.mem_cons_of_mem _ hb'))
    exact ⟨z8, z10, z11, by rw [List.map_cons]; exact (forF_cons e1).trans e2⟩
/-- what few come to that all don't -/
theorem few_ok (hi1 : TrInv ws t1) (hl : ws.length ≤ 256) : evE G f_law_C3 (lE x0 x2 x3 x4 x5 (some (.t (opT t))) x7 x8 (some (.t (opT t1))) x10 x11 x12 x13 x14) M = .ok (.t (tl (lostF t ((coF t1).map (·.1))))) M := by
  have lr := inv_len hi1
  have hk := keys_dZ (g := sN) (l := coF t1) (r := lE x0 x2 x3 x4 x5 (some (.t (opT t))) x7 x8 (some (.t (opT t1))) x10 x11 x12 x13 x14) (i := 9) rfl
  have cm := cmpF_filt (b := cmpBody G (.var 13) (some (.cmp .notIn (.var 13) (.var 6))) (.var 13) (lE x0 x2 x3 x4 x5 (some (.t (opT t))) x7 x8 (some (.t (opT t1))) x10 x11 x12 x13 x14)) (g := fun p : Int => D.t (.int p)) (h := fun p : Int => D.t (.int p)) (p := fun p => !decide (p ∈ t.rows.map (·.1))) (M := M) ((coF t1).map (·.1)) [] (fun p _ => by
    have e := fun M k => in_op (M := M) (t := t) (p := p) (k := k)
    rw [xCb]
    unfold lE
    generalize opT t1 = OT1 at *
    generalize opT t = OT at *
    cases hd : decide (p ∈ t.rows.map (·.1)) with
    | true =>
      rw [hd] at e
      simp_arith [wipeE, Tg.slots, noExc, e, -inV1]
    | false =>
      rw [hd] at e
      simp_arith [wipeE, Tg.slots, noExc, e, -inV1]) (by
        show _ ≤ 16777216
        have : ((coF t1).map (·.1)).length = t1.rows.length := by rw [co_keys, len_sortI, List.length_map]
        simp only [List.length_nil]
        omega)
  have e9 : ((coF t1).map fun q => D.t (.int q.1)) = ((coF t1).map (·.1)).map fun p : Int => D.t (.int p) := by rw [List.map_map]; rfl
  rw [e9] at hk
  rw [List.nil_append] at cm
  unfold f_law_C3
  refine evE_compK hk cm ?_
  show Res.ok (frzL (il (lostF t ((coF t1).map (·.1))))) M = _
  rw [frzL_il]
end
end Rw.K14
end
section
set_option Elab.async false
set_option linter.all false
set_option maxRecDepth 100000
set_option maxHeartbeats 0
namespace Rw.K14
open PySem Rw Rw.Pr Rw.Aw
section
variable {F : Nat → Option Fn} {k : Nat} {ns : List Int} {o : MO} {R M : Ar} {ws bs st : List Int} {t t1 : Tr} {G : Cal}
variable {x0 x2 x3 x4 x5 x6 x7 x8 x9 x10 x11 x12 x13 x14 : Option D}
/-- places to begin at, of those where rows begin -/
theorem bs_ok (h84 : F 84 = some f__law_drawn) (hs : Stt ns o) (hw : Ws st) (h0 : 0 < st.length) (h1 : st.length ≤ 256) : ∃ (bs : List Int) (o' : MO), evE (Rw.run F (k + 1)) f_law_C0 (lE x0 x2 x3 (some (.t (tl st))) x5 x6 x7 x8 x9 x10 x11 x12 x13 x14) (o :: R) = .ok (.t (tl bs)) (o' :: R) ∧ Stt ns o' ∧ Ws bs ∧ bs.length ≤ 16 := by
  obtain ⟨d, o1, ed, d0, d1, s1⟩ := drawn_ok (k := k) (rest := R) (n := 4) h84 hs (by omega) (by omega)
  obtain ⟨n, hn⟩ : ∃ n : Nat, 1 + d = n := ⟨(1 + d).toNat, by omega⟩
  have hlen := fun M => len_bi (M := M) st
  obtain ⟨bs, o', e, s', q⟩ := comp_draw (ns := ns) (rest := R) (b := cmpBody (Rw.run F (k + 1)) (.var 12) none (.idx (.var 4) (.call .plain 84 [(.var 1), (.bi .len [(.var 4)])])) (lE x0 x2 x3 (some (.t (tl st))) x5 x6 x7 x8 x9 x10 x11 x12 x13 x14)) (g := fun (j : Nat) => D.t (.int (j : Int))) (h := fun (b : Int) => D.t (.int b)) (Q := fun _ b => 0 ≤ b ∧ b < 256) (List.range' 0 n) [] o1 s1 (fun a _ o hs => by
    obtain ⟨v, o3, e3, v0, v1, s3⟩ := drawn_ok (k := k) (rest := R) (n := (st.length : Int)) h84 hs (by omega) (by omega)
    have ix := fun M => idx_tlI (M := M) (ws := st) (p := v) v0 v1
    have hb := hw.get (i := v.toNat) (by omega)
    refine ⟨st.getD v.toNat 0, o3, ?_, s3, hb⟩
    rw [xCb]
    unfold lE
    generalize st.getD v.toNat 0 = SV at *
    generalize (st.length : Int) = LN at *
    generalize (a : Int) = AA at *
    generalize tl st = TW at *
    simp_arith [wipeE, Tg.slots, noExc, callV_plain, hlen, e3, ix, -biV, -idxV]) (by simp; unfold line; omega)
  rw [List.nil_append] at e
  have hq := q.len
  rw [List.length_range'] at hq
  refine ⟨bs, o', ?_, s', q.right (fun _ _ b hb => hb), by omega⟩
  have sr := srRng_ok (i := (n : Int)) (M := o1 :: R) (small_in (by omega) (by omega))
  rw [Aw.rngN] at sr
  unfold f_law_C0
  rw [comp_at (M0 := o1 :: R) ?_ e]
  · show Res.ok (frzL (il bs)) _ = _
    rw [frzL_il]
  · clear e
    unfold lE
    generalize ((List.range' 0 n).map fun (j : Nat) => D.t (.int (j : Int))) = RL at *
    generalize tl st = TW at *
    simp_arith [callV_plain, ed, hn, sr, -srRng]
/-- the words, where to begin -/
theorem head (L : LawF F) (hs : Stt ns o) (ss : List Sm) : ∃ (ws bs : List Int) (o' : MO) (y4 : Option D), Stt ns o' ∧ Ws ws ∧ ws.length ≤ 256 ∧ Ws bs ∧ bs.length ≤ 16 ∧
    evB (Rw.run F (k + 6)) (.asg (.tup [(.var 3), (.var 4)]) (.call .focus 93 [(.var 1)]) :: .asg (.var 5) f_law_C0 ::
    .ite (.cmp .eq (.call .plain 84 [(.var 1), (.con (.int 3))]) (.con (.int 0))) [.asg (.var 3) (.call .focus 89 [(.var 1)]),
    .asg (.var 5) (.call .focus 92 [(.var 1), (.var 3)])] [] :: ss) (lE x0 x2 x3 x4 x5 x6 x7 x8 x9 x10 x11 x12 x13 x14) (o :: R)
    = evB (Rw.run F (k + 6)) ss (lE x0 x2 (some (.t (tl ws))) y4 (some (.t (tl bs))) x6 x7 x8 x9 x10 x11 x12 x13 x14) (o' :: R) := by
  obtain ⟨w1, st, o1, e1, s1, ww1, wl1, wst, l0, l1⟩ := clean_call (k := k + 4) (R := R) L.aw.h84 L.h93 hs
  obtain ⟨b1, o2, e2, s2, wb1, lb1⟩ := bs_ok (k := k + 5) (R := R) (st := st) (x0 := x0) (x2 := x2) (x3 := some (.t (tl w1))) (x5 := x5) (x6 := x6) (x7 := x7) (x8 := x8) (x9 := x9) (x10 := x10) (x11 := x11) (x12 := x12) (x13 := x13) (x14 := x14) L.aw.h84 s1 wst l0 l1
  obtain ⟨c, o3, e3, c0, c1, s3⟩ := drawn_ok (k := k + 5) (rest := R) (n := 3) L.aw.h84 s2 (by omega) (by omega)
  have S1 : evS (Rw.run F (k + 6)) (.asg (.tup [(.var 3), (.var 4)]) (.call .focus 93 [(.var 1)])) (lE x0 x2 x3 x4 x5 x6 x7 x8 x9 x10 x11 x12 x13 x14) (o :: R) = .ok (.nx (lE x0 x2 (some (.t (tl w1))) (some (.t (tl st))) x5 x6 x7 x8 x9 x10 x11 x12 x13 x14)) (o1 :: R) := by
    unfold lE
    generalize tl w1 = T1 at *
    generalize tl st = T2 at *
    simp_arith [e1]
  have S2 := asg_at (i := 5) e2 (by simp [lE])
  change _ = Res.ok (Fl.nx (lE x0 x2 (some (.t (tl w1))) (some (.t (tl st))) (some (.t (tl b1))) x6 x7 x8 x9 x10 x11 x12 x13 x14)) _ at S2
  rw [seq1 S1, seq1 S2]
  by_cases hc : c = 0
  · subst hc
    obtain ⟨w2, o4, e4, s4, ww2, wl2⟩ := any_call (k := k + 4) (R := R) L.aw s3
    obtain ⟨b2, o5, e5, s5, wb2, lb2⟩ := begins_call (k := k + 4) (R := R) L.aw L.h92 s4 wl2
    refine ⟨w2, b2, o5, some (.t (tl st)), s5, ww2, wl2, wb2, lb2, ?_⟩
    have S3 : evS (Rw.run F (k + 6)) (.ite (.cmp .eq (.call .plain 84 [(.var 1), (.con (.int 3))]) (.con (.int 0))) [.asg (.var 3) (.call .focus 89 [(.var 1)]), .asg (.var 5) (.call .focus 92 [(.var 1), (.var 3)])] []) (lE x0 x2 (some (.t (tl w1))) (some (.t (tl st))) (some (.t (tl b1))) x6 x7 x8 x9 x10 x11 x12 x13 x14) (o2 :: R) = .ok (.nx (lE x0 x2 (some (.t (tl w2))) (some (.t (tl st))) (some (.t (tl b2))) x6 x7 x8 x9 x10 x11 x12 x13 x14)) (o5 :: R) := by
      clear S1 S2 e1 e2
      unfold lE
      generalize tl w1 = T1 at *
      generalize tl st = T2 at *
      generalize tl w2 = T3 at *
      generalize tl b1 = T4 at *
      generalize tl b2 = T5 at *
      simp_arith [callV_plain, e3, e4, e5]
    exact seq1 S3
  · refine ⟨w1, b1, o3, some (.t (tl st)), s3, ww1, wl1, wb1, lb1, ?_⟩
    have S3 : evS (Rw.run F (k + 6)) (.ite (.cmp .eq (.call .plain 84 [(.var 1), (.con (.int 3))]) (.con (.int 0))) [.asg (.var 3) (.call .focus 89 [(.var 1)]), .asg (.var 5) (.call .focus 92 [(.var 1), (.var 3)])] []) (lE x0 x2 (some (.t (tl w1))) (some (.t (tl st))) (some (.t (tl b1))) x6 x7 x8 x9 x10 x11 x12 x13 x14) (o2 :: R) = .ok (.nx (lE x0 x2 (some (.t (tl w1))) (some (.t (tl st))) (some (.t (tl b1))) x6 x7 x8 x9 x10 x11 x12 x13 x14)) (o3 :: R) := by
      clear S1 S2 e1 e2
      unfold lE
      generalize tl w1 = T1 at *
      generalize tl st = T2 at *
      generalize tl b1 = T4 at *
      simp_arith [callV_plain, e3, hc]
    exact seq1 S3
theorem take1 (l : List Int) : slcV false (.t (tl l)) none (some 1) M = .ok (.t (tl (l.take 1))) M := by
  rw [slc_tl]
  congr 3
  unfold cut
  cases l with
  | nil => rfl
  | cons a l =>
    have : HT.sIx (a :: l).length (a :: l).length (some 1) = 1 := by
      unfold HT.sIx
      simp
    have h0 : HT.sIx (a :: l).length 0 none = 0 := rfl
    rw [this, h0]
    rfl
/-- the rest of a turn -/
theorem rest (L : LawF F) (hw : Ws ws) (hl : ws.length ≤ 256) (hbw : Ws bs) (hb : bs.length ≤ 16) : ∃ y6 y7 y8 y9 y10 y11,
    evB (Rw.run F (k + 6)) [.asg (.tup [(.var 6), (.var 7)]) (.tuple [(.bi (.dictP false) [(.call .clean 80 [(.var 3), (.var 5)])]), (.call .clean 81 [(.var 3), (.var 5)])]),
    f_law_L0,
    .asg (.var 9) (.bi (.dictP false) [(.call .clean 80 [(.var 3), (.slc false (.var 5) none (some (.con (.int 1))))])]),
    .ite (.and [(.cmp .eq (.var 7) (.list false [])), (.cmp .eq (.call .clean 81 [(.var 3), (.slc false (.var 5) none (some (.con (.int 1))))]) (.list false [])), (.cmp .ne f_law_C3 (.list false []))]) [.ret (some (.con (.bl false)))] []]
    (lE x0 x2 (some (.t (tl ws))) x4 (some (.t (tl bs))) x6 x7 x8 x9 x10 x11 x12 x13 x14) M = .ok (.nx (lE x0 x2 (some (.t (tl ws))) x4 (some (.t (tl bs))) y6 y7 y8 y9 y10 y11 x12 x13 x14)) M := by
  obtain ⟨t, hi, hc, hm⟩ := trace_call (k := k + 1) L.tra hw hl hb (Cl ws bs) (cl0 hb) (fun t wl z t' res _ h hz _ c => cl_step h hz c)
  have w1 : Ws (bs.take 1) := fun x hx => hbw x (List.mem_of_mem_take hx)
  have l1 : (bs.take 1).length ≤ 16 := by rw [List.length_take]; omega
  obtain ⟨t1, hi1, ⟨hc1, hf1⟩, hm1⟩ := trace_call (k := k + 1) L.tra hw hl l1 (fun t1 wl => Cl ws (bs.take 1) t1 wl ∧ (t.apart = [] → Fw ws t t1 wl)) ⟨cl0 l1, fun _ => fw0 hc fun b hb => List.mem_of_mem_take hb⟩
    (fun t1 wl z t1' res _ h hz _ c => ⟨cl_step h.1 hz c, fun ha => fw_step hi hc ha (h.2 ha) hz c⟩)
  have ha := apart_le hi hc hl
  have ha1 := apart_le hi1 hc1 hl
  have c1 := fun M => come_to_ok (k := k + 1) (M := M) L.tra L.h80 hw hl hbw hb hi hm
  have c2 := fun M => middles_ok (k := k + 1) (M := M) L.tra L.h81 hw hl hbw hb (by omega) hm
  have c3 := fun M => come_to_ok (k := k + 1) (M := M) L.tra L.h80 hw hl w1 l1 hi1 hm1
  have c4 := fun M => middles_ok (k := k + 1) (M := M) L.tra L.h81 hw hl w1 l1 (by omega) hm1
  have d1 := fun M => dict_co (M := M) hi
  have d3 := fun M => dict_co (M := M) hi1
  have S1 : evS (Rw.run F (k + 6)) (.asg (.tup [(.var 6), (.var 7)]) (.tuple [(.bi (.dictP false) [(.call .clean 80 [(.var 3), (.var 5)])]), (.call .clean 81 [(.var 3), (.var 5)])])) (lE x0 x2 (some (.t (tl ws))) x4 (some (.t (tl bs))) x6 x7 x8 x9 x10 x11 x12 x13 x14) M = .ok (.nx (lE x0 x2 (some (.t (tl ws))) x4 (some (.t (tl bs))) (some (.t (opT t))) (some (.t (apT t))) x8 x9 x10 x11 x12 x13 x14)) M := by
    clear c3 c4 hm hm1
    unfold lE
    generalize opT t = OT at *
    generalize T.lst ((coF t).map poT) = CT at *
    unfold apT
    generalize T.lst ((apF t).map pr2T) = AT at *
    generalize tl ws = TW at *
    generalize tl bs = TB at *
    simp_arith [c1, c2, d1, -biV]
  obtain ⟨y8, y10, y11, e2⟩ := begin_loop (k := k) (M := M) (x0 := x0) (x2 := x2) (x4 := x4) (x5 := some (.t (tl bs))) (x9 := x9) (x12 := x12) (x13 := x13) (x14 := x14) L hw hl hi hc hbw bs x8 x10 x11 (fun b hb => hb)
  have S2 : evS (Rw.run F (k + 6)) f_law_L0 (lE x0 x2 (some (.t (tl ws))) x4 (some (.t (tl bs))) (some (.t (opT t))) (some (.t (apT t))) x8 x9 x10 x11 x12 x13 x14) M = .ok (.nx (lE x0 x2 (some (.t (tl ws))) x4 (some (.t (tl bs))) (some (.t (opT t))) (some (.t (apT t))) y8 x9 y10 y11 x12 x13 x14)) M := by
    refine evS_for _ ?_ e2
    have e := fun M => seq_tl (M := M) bs
    clear e2
    unfold lE
    generalize (bs.map fun b => D.t (.int b)) = BL at *
    generalize opT t = OT at *
    generalize apT t = AT at *
    generalize tl ws = TW at *
    generalize tl bs = TB at *
    simp_arith [e, -srSeq]
  have tk := fun M => take1 (M := M) bs
  have S3 : evS (Rw.run F (k + 6)) (.asg (.var 9) (.bi (.dictP false) [(.call .clean 80 [(.var 3), (.slc false (.var 5) none (some (.con (.int 1))))])])) (lE x0 x2 (some (.t (tl ws))) x4 (some (.t (tl bs))) (some (.t (opT t))) (some (.t (apT t))) y8 x9 y10 y11 x12 x13 x14) M = .ok (.nx (lE x0 x2 (some (.t (tl ws))) x4 (some (.t (tl bs))) (some (.t (opT t))) (some (.t (apT t))) y8 (some (.t (opT t1))) y10 y11 x12 x13 x14)) M := by
    clear c1 c2 c4 hm hm1 S1 S2 e2 d1
    unfold lE
    generalize opT t1 = OT1 at *
    generalize opT t = OT at *
    generalize apT t = AT at *
    generalize T.lst ((coF t1).map poT) = CT at *
    generalize tl (bs.take 1) = TB1 at *
    generalize tl ws = TW at *
    generalize tl bs = TB at *
    simp_arith [c3, d3, tk, -biV]
  have e3 := few_ok (G := Rw.run F (k + 6)) (M := M) (t := t) (x0 := x0) (x2 := x2) (x3 := some (.t (tl ws))) (x4 := x4) (x5 := some (.t (tl bs))) (x7 := some (.t (apT t))) (x8 := y8) (x10 := y10) (x11 := y11) (x12 := x12) (x13 := x13) (x14 := x14) hi1 hl
  have n1 : ∀ M k, eqV2 M (.t (apT t)) (.t (.lst [])) k = _ := fun M k => ne_nil (M := M) (l := (apF t).map pr2T) (k := k)
  have n2 : ∀ M k, eqV2 M (.t (apT t1)) (.t (.lst [])) k = _ := fun M k => ne_nil (M := M) (l := (apF t1).map pr2T) (k := k)
  have n3 := fun M k => ne_nil (M := M) (l := (lostF t ((coF t1).map (·.1))).map T.int) (k := k)
  change ∀ M k, eqV2 M (.t (tl (lostF t ((coF t1).map (·.1))))) (.t (.lst [])) k = _ at n3
  have hno : (apF t).isEmpty = true → (lostF t ((coF t1).map (·.1))).isEmpty = true := fun h => by
    have h0 : t.apart = [] := by
      cases hq : t.apart with
      | nil => rfl
      | cons a l =>
        have : a ∈ apF t := apF_mem.mpr (by rw [hq]; exact List.mem_cons_self)
        rw [List.isEmpty_iff.mp h] at this
        cases this
    rw [List.isEmpty_iff]
    unfold lostF
    rw [List.filter_eq_nil_iff]
    intro p hp
    have h1 := co_in.mp hp
    obtain ⟨q, hq, rfl⟩ := List.mem_map.mp h1
    have := (hf1 h0).r q hq
    simp only [decide_eq_true this]
    simp
  rw [List.isEmpty_map] at n1 n2 n3
  have S4 : evT (Rw.run F (k + 6)) (.and [(.cmp .eq (.var 7) (.list false [])), (.cmp .eq (.call .clean 81 [(.var 3), (.slc false (.var 5) none (some (.con (.int 1))))]) (.list false [])), (.cmp .ne f_law_C3 (.list false []))]) (lE x0 x2 (some (.t (tl ws))) x4 (some (.t (tl bs))) (some (.t (opT t))) (some (.t (apT t))) y8 (some (.t (opT t1))) y10 y11 x12 x13 x14) M = .ok false M := by
    clear c1 c2 c3 hm hm1 S1 S2 S3 e2 d1 d3
    change ∀ M, callV _ .clean 81 _ M = .ok (.t (apT t1)) M at c4
    unfold lE at e3 ⊢
    generalize opT t1 = OT1 at *
    generalize opT t = OT at *
    generalize apT t1 = AT1 at *
    generalize apT t = AT at *
    generalize tl (lostF t ((coF t1).map (·.1))) = TL at *
    generalize tl (bs.take 1) = TB1 at *
    generalize tl ws = TW at *
    generalize tl bs = TB at *
    cases h1 : (apF t).isEmpty with
    | false =>
      rw [h1] at n1
      simp_arith [n1]
    | true =>
      rw [h1] at n1
      rw [hno h1] at n3
      cases h2 : (apF t1).isEmpty with
      | false =>
        rw [h2] at n2
        simp_arith [n1, n2, c4, tk]
      | true =>
        rw [h2] at n2
        simp_arith [n1, n2, n3, c4, tk, e3]
  refine ⟨some (.t (opT t)), some (.t (apT t)), y8, some (.t (opT t1)), y10, y11, ?_⟩
  rw [seq1 S1, seq1 S2, seq1 S3, seq1 (ite_0 S4), xB0]
/-- what stays between turns -/
def I0 (ns : List Int) (r : En) (M : Ar) : Prop := r.length = 15 ∧ r[0]? = some (some (.t (.scr ns))) ∧ r[1]? = some (some (.ref 0)) ∧ ∃ (o : MO) (R : Ar), M = o :: R ∧ Stt ns o
theorem turn (L : LawF F) {r : En} {M : Ar} {d : D} (h : I0 ns r M) : ∃ r' M', forBody (Rw.run F (k + 6)) (.var 2) f_law_B1 d r M = .ok (.nx r') M' ∧ I0 ns r' M' := by
  obtain ⟨hl, h0, h1, o, R, rfl, hs⟩ := h
  obtain ⟨x0, x1, x2, x3, x4, x5, x6, x7, x8, x9, x10, x11, x12, x13, x14, rfl⟩ : ∃ r0 r1 r2 r3 r4 r5 r6 r7 r8 r9 r10 r11 r12 r13 r14, r = [r0, r1, r2, r3, r4, r5, r6, r7, r8, r9, r10, r11, r12, r13, r14] := by
    match r, hl with
    | [r0, r1, r2, r3, r4, r5, r6, r7, r8, r9, r10, r11, r12, r13, r14], _ => exact ⟨_, _, _, _, _, _, _, _, _, _, _, _, _, _, _, rfl⟩
  have g0 : x0 = some (.t (.scr ns)) := by simpa using h0
  have g1 : x1 = some (.ref 0) := by simpa using h1
  subst g0
  subst g1
  have f : ∀ b, forBody (Rw.run F (k + 6)) (.var 2) b d [some (.t (.scr ns)), some (.ref 0), x2, x3, x4, x5, x6, x7, x8, x9, x10, x11, x12, x13, x14] (o :: R) = evB (Rw.run F (k + 6)) b (lE (some (.t (.scr ns))) (some d) x3 x4 x5 x6 x7 x8 x9 x10 x11 x12 x13 x14) (o :: R) := fun b => by
    unfold forBody lE
    rfl
  rw [f]
  unfold f_law_B1
  obtain ⟨ws, bs, o1, y4, s1, ww, wl, wb, lb, e1⟩ := head (k := k) (R := R) (x0 := some (.t (.scr ns))) (x2 := some d) (x3 := x3) (x4 := x4) (x5 := x5) (x6 := x6) (x7 := x7) (x8 := x8) (x9 := x9) (x10 := x10) (x11 := x11) (x12 := x12) (x13 := x13) (x14 := x14) L hs _
  rw [e1]
  obtain ⟨y6, y7, y8, y9, y10, y11, e2⟩ := rest (k := k) (M := o1 :: R) (x0 := some (.t (.scr ns))) (x2 := some d) (x4 := y4) (x6 := x6) (x7 := x7) (x8 := x8) (x9 := x9) (x10 := x10) (x11 := x11) (x12 := x12) (x13 := x13) (x14 := x14) L ww wl wb lb
  exact ⟨_, _, e2, rfl, rfl, rfl, o1, R, rfl, s1⟩
theorem law_true (L : LawF F) (h82 : F 82 = some f_law) (h83 : F 83 = some f__law_start) (ns : List Int) : ∃ M, Rw.run F (k + 7) 82 [.t (.scr ns)] [] = .ok (.t (.bl true)) M := by
  obtain ⟨o, e0, s0⟩ := start_ok (k := k + 5) (ns := ns) h83
  obtain ⟨r', M', e, hl, r0, r1, o', R', rfl, ho'⟩ := forF_ok (b := forBody (Rw.run F (k + 6)) (.var 2) f_law_B1) (I0 ns) (rngL 0 4) ([some (.t (.scr ns)), some (.ref 0)] ++ List.replicate 13 none) [o] (fun x hx r M h => turn (k := k) L h) ⟨rfl, rfl, rfl, o, [], rfl, s0⟩
  refine ⟨o' :: R', ?_⟩
  rw [run_at h82]
  have eL : evS (Rw.run F (k + 6)) f_law_L1 ([some (.t (.scr ns)), some (.ref 0)] ++ List.replicate 13 none) [o] = .ok (.nx r') (o' :: R') := evS_for _ rfl e
  have eR : evS (Rw.run F (k + 6)) (.ret (some (.con (.bl true)))) r' (o' :: R') = .ok (.rt (.t (.bl true))) (o' :: R') := by
    simp_arith []
  have eS : evS (Rw.run F (k + 6)) (.asg (.var 1) (.call .plain 83 [(.var 0)])) ([some (.t (.scr ns))] ++ List.replicate 14 none) [] = .ok (.nx ([some (.t (.scr ns)), some (.ref 0)] ++ List.replicate 13 none)) [o] := by
    simp_arith [callV_plain, e0, List.replicate]
  have eB : evB (Rw.run F (k + 6)) f_law.body ([some (.t (.scr ns))] ++ List.replicate 14 none) [] = .ok (.rt (.t (.bl true))) (o' :: R') := by
    unfold f_law
    refine (seq1 eS).trans ((seq1 eL).trans ?_)
    rw [xB1, eR] <;> rfl
  show (evB (Rw.run F (k + 6)) f_law.body ([some (.t (.scr ns))] ++ List.replicate 14 none) []).bind _ = _
  rw [eB] <;> rfl
end
end Rw.K14
end
section
set_option Elab.async false
theorem Rw.K14.lawF : Rw.K14.LawF Rw.K14.fns := by
  constructor <;> first | rfl | (constructor <;> first | rfl | (constructor <;> first | rfl | (constructor <;> rfl)))
set_option maxRecDepth 100000 in
set_option maxHeartbeats 8000000 in
theorem PySem.Challenge.cw_rowscribe_k14_whole_what_runs_was_come_t_holds : PySem.Challenge.rw_rowscribe_k14_whole_what_runs_was_come_t.Holds := by
  exact k14_holds fun ns _ => Rw.K14.law_true (k := 53) Rw.K14.lawF (by rfl) (by rfl) ns
end
